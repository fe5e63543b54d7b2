import PyProof.Rows.All
import Wide.All
import OpenK.AllK
import Wide.FinOn
import PyProof.StrReplace2
import PySem.Challenge.RW_pc0088_01
set_option Elab.async false
set_option linter.unusedVariables false
set_option maxRecDepth 100000
set_option maxHeartbeats 0
set_option genSizeOfSpec false
set_option bootstrap.genMatcherCode false
local macro_rules | `(tactic| rfl') => `(tactic| kernel_rfl)
namespace Mine
noncomputable section
noncomputable def Kw (a : Nat) : Nat := 128 ^ (Nat.log2 a / 7)
noncomputable def Kc (a b : Nat) : Nat := a - Kw a + Kw a * b
noncomputable def Kk (l : List Nat) : Nat := @List.rec Nat (fun _ => Nat) 0 (fun a _ r => Kc a r) l
noncomputable def Kl (l : List Nat) : Nat := @List.rec Nat (fun _ => Nat) 1 (fun a _ r => Kc a r) l
def Kaa:=Kl [16384]
def Kab:=Kc Kaa Kaa
def Kac:=Kl [16513]
def Kad:=Kc Kab 128
def Kae:=Kc Kac 129
def Kaf:=Kl [16512]
def Kag:=Kc Kaa 128
def Kah:=Kc Kab Kaa
def Kai:=Kl [16768]
def Kaj:=Kc Kac Kae
def Kak:=Kc 128 Kac
def Kal:=Kl [16771]
def Kam:=Kc 130 Kab
def Kan:=Kl [16642]
def Kao:=Kc 129 Kab
def Kap:=Kc Kam 130
def Kaq:=Kc Kac Kac
def Kar:=Kc 128 Kae
def Kas:=Kl [17158]
def Kat:=Kl [17029]
def Kau:=Kc 130 Kad
def Kav:=Kl [16640]
def Kaw:=Kc Kab Kae
def Kax:=Kl [17545]
def Kay:=Kl [16388]
def Kaz:=Kl [17416]
def Kba:=Kl [17792]
def Kbb:=Kc 132 Kab
def Kbc:=Kl [17152]
def Kbd:=Kl [17287]
def Kbe:=Kc Kad 131
def Kbf:=Kl [17674]
def Kbg:=Kc Kan Kai
def Kbh:=Kc 137 Kad
def Kbi:=Kc Kai Kal
def Kbj:=Kc 136 Kad
def Kbk:=Kc 138 Kab
def Kbl:=Kc 132 Kad
def Kbm:=Kc Kar 130
def Kbn:=Kc Kaa 129
def Kbo:=Kc 133 Kab
def Kbp:=Kc 132 Kay
def Kbq:=Kc Kbk 138
def Kbr:=Kl [Kap,Kag,Kbg]
def Kbs:=Kl [17664]
def Kbt:=Kc 138 Kad
def Kbu:=Kc Kao Kaj
def Kbv:=Kc Kac Kaj
def Kbw:=Kc Kac Kaf
def Kbx:=Kc 136 Kab
def Kby:=Kc 137 Kab
def Kbz:=Kc Kby 137
def Kca:=Kc Kab Kab
def Kcb:=Kc Kau Kau
def Kcc:=Kl [18176]
def Kcd:=Kc Kbx 136
def Kce:=Kl [131,Kab,131]
def Kcf:=Kl [Kbq,Kag,Kbf,Kba]
def Kcg:=Kc 133 Kad
def Kch:=Kc Kab Kaj
def Kci:=Kc 134 Kaf
def Kcj:=Kc Kae Kak
def Kck:=Kc 134 Kad
def Kcl:=Kc Kad 135
def Kcm:=Kl [17280]
def Kcn:=Kl [18061]
def Kco:=Kc Kbm Kae
def Kcp:=Kc Kao Kbv
def Kcq:=Kl [Kbb,132,Kag,Kbp,133]
def Kcr:=Kc Kad 148
def Kcs:=Kc Kaf Kab
def Kct:=Kc Kad 140
def Kcu:=Kl [18190]
def Kcv:=Kl [17803]
def Kcw:=Kc Kad Kae
def Kcx:=Kl [17536]
def Kcy:=Kc Kab 134
def Kcz:=Kc Kbz Kag
def Kda:=Kc Kaf 136
def Kdb:=Kc Kag Kac
def Kdc:=Kc 134 Kcy
def Kdd:=Kc Kap 131
def Kde:=Kc Kad 151
def Kdf:=Kl [141,Kab,141]
def Kdg:=Kl [17920]
def Kdh:=Kl [Kcz,Kax,Kbs]
def Kdi:=Kc Kci 0x218086
def Kdj:=Kc Kas Kbc
def Kdk:=Kl [18834]
def Kdl:=Kc 141 Kad
def Kdm:=Kc 139 Kad
def Kdn:=Kl [Kbo,133,Kag,Kat,Kbc]
def Kdo:=Kc Kbl Kbl
def Kdp:=Kl [18304]
def Kdq:=Kl [Kap,Kav,Kav,Kag,130,Kbi]
def Kdr:=Kc Kaz 136
def Kds:=Kc Kad 159
def Kdt:=Kc 128 Kan
def Kdu:=Kc Kaf 130
def Kdv:=Kl [17408]
def Kdw:=Kc Kbb 17028
def Kdx:=Kc Kaj Kcb
def Kdy:=Kc Kaf Kdj
def Kdz:=Kl [Kce,Kag,Kal,128]
def Kea:=Kc Kad 157
def Keb:=Kl [18318]
def Kec:=Kl [139,Kab,139]
def Ked:=Kc Kdo Kdw
def Kee:=Kl [131,Kbe,Kbe,Kab,16899]
def Kef:=Kc Kbd 135
def Keg:=Kl [17932]
def Keh:=Kc Kaf 135
def Kei:=Kl [18963]
def Kej:=Kl [142,Kad,142]
def Kek:=Kc Kat 133
def Kel:=Kl [16770]
def Kem:=Kc Kab 140
def Ken:=Kc Kaq Kac
def Keo:=Kl [150,Kad,150]
def Kep:=Kl [149,Kad,149]
def Keq:=Kl [18577]
def Ker:=Kl [19350]
def Kes:=Kl [18705]
def Ket:=Kc Kae Kar
def Keu:=Kl [158,Kad,158]
def Kev:=Kl [20382]
def Kew:=Kl [Kdf,Kag,Kcn,Kcc]
def Kex:=Kc Kcd Kag
def Key:=Kc Kaa Kac
def Kez:=Kc 148 Kcr
def Kfa:=Kl [Kdc,Kag,Kas,Kcm]
def Kfb:=Kc Kag Kaq
def Kfc:=Kl [145,Kad,145]
def Kfd:=Kl [18319]
def Kfe:=Kc 129 Kbr
def Kff:=Kl [18816]
def Kfg:=Kc Kcd 137
def Kfh:=Kc Kaa Kae
def Kfi:=Kl [17544]
def Kfj:=Kl [135,Kcl,Kcl]
def Kfk:=Kl [Kex,Kaz,Kcx]
def Kfl:=Kl [146,Kad,146,Kad,146,Kah,Kdk]
def Kfm:=Kl [130,Kah,Kel]
def Kfn:=Kc Kcq Kaf
def Kfo:=Kc Kcg Kcg
def Kfp:=Kc Kaq Kaf
def Kfq:=Kc Kai 131
def Kfr:=Kc Kad 161
def Kfs:=Kl [17673]
def Kft:=Kl [16900]
def Kfu:=Kc 129 Kad
def Kfv:=Kc 128 Kaj
def Kfw:=Kc Kdz 132
def Kfx:=Kc Kag 131
def Kfy:=Kc 128 Kax
def Kfz:=Kl [18048]
def Kga:=Kl [Kfo,Kbo,133]
def Kgb:=Kl [Keu,Kad,158]
def Kgc:=Kc Kco Kco
def Kgd:=Kc Kca Kca
def Kge:=Kc Kbm Kbw
def Kgf:=Kc Kas Kas
def Kgg:=Kc Kak Kcb
def Kgh:=Kc Kaa Kbw
def Kgi:=Kl [156,Kad,156]
def Kgj:=Kc 151 Kde
def Kgk:=Kl [19092]
def Kgl:=Kl [137,Kah,Kbh]
def Kgm:=Kc Kdi Kef
def Kgn:=Kc Kbd Kbd
def Kgo:=Kc Kad 154
def Kgp:=Kl [160,Kad,160]
def Kgq:=Kl [20640]
def Kgr:=Kl [20124]
def Kgs:=Kc 143 Kad
def Kgt:=Kl [17802]
def Kgu:=Kc 129 Kcs
def Kgv:=Kl [Kbh,Kbh,137,Kah,Kfs]
def Kgw:=Kl [138,Kah,Kbt,Kbf,Kba]
def Kgx:=Kc Kaq Kak
def Kgy:=Kc Kac Kar
def Kgz:=Kl [19479]
def Kha:=Kc 134 Kah
def Khb:=Kl [Kfu,Kao,129]
def Khc:=Kc Kdq Kac
def Khd:=Kl [Kbj,Kbj,136,Kah,Kfi]
def Khe:=Kl [Kbj,Kbj,Kfg]
def Khf:=Kc Kcv Kdg
def Khg:=Kc Kck Kck
def Khh:=Kc Kbz 138
def Khi:=Kc Kbr Kfe
def Khj:=Kc Kat Kat
def Khk:=Kc Kad 162
def Khl:=Kc Kaa Kdx
def Khm:=Kl [168,Kad,168]
def Khn:=Kc 159 Kds
def Kho:=Kl [20511]
def Khp:=Kl [19609]
def Khq:=Kl [Kgu,Kfb,Kaq]
def Khr:=Kc Kgj Kde
def Khs:=Kc Kgc Kge
def Kht:=Kl [Kfj,Kab,17415]
def Khu:=Kc Kek 128
def Khv:=Kc Kas 134
def Khw:=Kc Kaf 145
def Khx:=Kc Kab 143
def Khy:=Kc 157 Kea
def Khz:=Kl [20253]
def Kia:=Kl [17931]
def Kib:=Kc 134 Kaw
def Kic:=Kl [18432]
def Kid:=Kc Khl Kfm
def Kie:=Kl [Kgl,Kax,Kbs]
def Kif:=Kl [Kbt,Kbt,138,Kah,Kgt]
def Kig:=Kl [Kej,Kad,142,Kah,Keb]
def Kih:=Kl [Kao,129,Kdb,Kav]
def Kii:=Kl [Kec,Kag,Khf]
def Kij:=Kc Kdt Kan
def Kik:=Kl [Kce,Kai,Kai,Kfx]
def Kil:=Kc Kah 131
def Kim:=Kl [21672]
def Kin:=Kl [19737]
def Kio:=Kl [17409]
def Kip:=Kc Khu Kat
def Kiq:=Kc Kgd Kca
def Kir:=Kl [Kgb,Kah,Kev]
def Kis:=Kc Kga Kib
def Kit:=Kl [130,Kah,Kau,Kbg]
def Kiu:=Kl [Kcf,Kac,Kcf]
def Kiv:=Kc Kae Kan
def Kiw:=Kc 143 Khx
def Kix:=Kc 142 Kag
def Kiy:=Kc 142 Kab
def Kiz:=Kc Kih Kda
def Kja:=Kl [Kid,Kgg,Kdd,Kbu,Kee]
def Kjb:=Kl [Kha,Kck,Kas,Kcm]
def Kjc:=Kl [Kgp,Kad,160]
def Kjd:=Kl [Kep,Kad,149,Kah,19221]
def Kje:=Kc Keh Kdr
def Kjf:=Kl [Kal,Kbw,Kaf,Kij,131,Kbi]
def Kjg:=Kl [18835]
def Kjh:=Kl [18576]
def Kji:=Kl [Kgh,Key,Kad,Khb,Kam,Kdx,Kdd,Kbu,131,Kbe,Kbe,Kil,132,Kak,Kee,Kbu,Ked,Kcp]
def Kjj:=Kl [Kiy,Kix,Kcu,Kdp]
def Kjk:=Kl [Khm,Kad,168]
def Kjl:=Kl [Khg,Kdc,135,Kaw]
def Kjm:=Kl [147,Kad,147,Kad,147,Kah,Kei]
def Kjn:=Kc Kem 141
def Kjo:=Kc Kah 141
def Kjp:=Kc Kaf Kaf
def Kjq:=Kc Kad 155
def Kjr:=Kl [18964]
def Kjs:=Kl [17024]
def Kjt:=Kl [Kja,Kcp,Ked]
def Kju:=Kc Kcw Kcw
def Kjv:=Kc Kcn 141
def Kjw:=Kc Kaz Kaz
def Kjx:=Kc Kal 131
def Kjy:=Kc Kaf 140
def Kjz:=Kc Kaf 137
def Kka:=Kc Kad 167
def Kkb:=Kc Kaa Kcs
def Kkc:=Kc Kaa 130
def Kkd:=Kl [164,Kad,164]
def Kke:=Kl [144,Kad,144]
def Kkf:=Kl [18060]
def Kkg:=Kc Kjl Kht
def Kkh:=Kc Khn Kds
def Kki:=Kl [140,Kct,Kct,Kjn]
def Kkj:=Kc Kft 132
def Kkk:=Kl [Keo,Kad,150,Kah,Ker]
def Kkl:=Kl [Kbh,Kbh,Khh]
def Kkm:=Kc Kec 140
def Kkn:=Kc Kcu 142
def Kko:=Kc Kbq 139
def Kkp:=Kc 161 Kfr
def Kkq:=Kl [152,Kad,152]
def Kkr:=Kc 132 Kag
def Kks:=Kl [16641]
def Kkt:=Kc 128 Kam
def Kku:=Kl [Kke,Kad,144]
def Kkv:=Kl [Kjk,Kah,Kim]
def Kkw:=Kl [Khr,Kab,Kgz]
def Kkx:=Kl [Kfc,Kad,145,Kah,Kes]
def Kky:=Kl [Keo,Kad,150,Kab,Ker]
def Kkz:=Kl [Kem,Kag,Keg,Kfz]
def Kla:=Kc Kdf 142
def Klb:=Kl [Kbb,132,Kag,Kbp,Kbo]
def Klc:=Kc Kal Kaf
def Kld:=Kc Kag 136
def Kle:=Kc Kae 130
def Klf:=Kc Kad 174
def Klg:=Kc Kad 172
def Klh:=Kl [20769]
def Kli:=Kc 154 Kgo
def Klj:=Kc 145 Kag
def Klk:=Kc 129 Khd
def Kll:=Kc 128 Kbd
def Klm:=Kl [Kjc,Kah,Kgq]
def Kln:=Kc Kcu Kcc
def Klo:=Kc Kaw Kie
def Klp:=Kc Kaf 131
def Klq:=Kc 139 Kah
def Klr:=Kl [16392]
def Kls:=Kl [17415]
def Klt:=Kc 133 Kah
def Klu:=Kl [18944]
def Klv:=Kl [Kab,135,Kag,Kbd,Kdv]
def Klw:=Kl [Kao,129,Kdb,Kkt,Kio]
def Klx:=Kl [Kkq,Kad,152]
def Kly:=Kc Kjw 137
def Klz:=Kl [Kji,Kis,Kjb,Kae,Kiu]
def Kma:=Kc Kjf 136
def Kmb:=Kc Kip 135
def Kmc:=Kc Kgy Khs
def Kmd:=Kl [Kdl,Kdl,Kla]
def Kme:=Kl [Kez,Kcr,Kab,Kgk]
def Kmf:=Kc Kgf 135
def Kmg:=Kc Kfy Kax
def Kmh:=Kc Kfv Kaa
def Kmi:=Kc Kfl Kak
def Kmj:=Kl [147,Kad,147,Kad,147,Kab,Kei]
def Kmk:=Kl [Kep,Kad,149,Kab,19221]
def Kml:=Kl [Kej,Kad,142,Kab,Keb]
def Kmm:=Kc Kcs Kgx
def Kmn:=Kc Kcj 128
def Kmo:=Kc Kax 137
def Kmp:=Kc Kag 137
def Kmq:=Kc Kad 166
def Kmr:=Kl [Kab,Klj,Keq,18688]
def Kms:=Kc Kab Kbv
def Kmt:=Kc Kaa Kaj
def Kmu:=Kl [163,Kad,163]
def Kmv:=Kc 162 Khk
def Kmw:=Kl [19996]
def Kmx:=Kl [153,Kad,153,Kad,153]
def Kmy:=Kl [19608]
def Kmz:=Kl [16902]
def Kna:=Kl [Klr,Kbx,Kbv]
def Knb:=Kc Klb 129
def Knc:=Kc Kkb Kfp
def Knd:=Kl [Kgi,Kad,156,Kab,Kgr]
def Kne:=Kc Khw 129
def Knf:=Kl [Kdm,Kdm,Klq,Kia]
def Kng:=Kl [Kdm,Kdm,Kkm]
def Knh:=Kl [Kdl,Kdl,141,Kjo,142]
def Kni:=Kl [Kez,Kcr,Kah,Kgk]
def Knj:=Kc Kgs Kgs
def Knk:=Kl [Kfc,Kad,145,Kab,Kes]
def Knl:=Kl [140,Kct,Kct,Kah,Kkf]
def Knm:=Kc Kfd Kic
def Knn:=Kl [Kbt,Kbt,Kko]
def Kno:=Kc Kdq 129
def Knp:=Kc Kdg Keg
def Knq:=Kc Kci Khv
def Knr:=Kc Kch 131
def Kns:=Kc Kai Kbi
def Knt:=Kc Kah Kho
def Knu:=Kc Kag 139
def Knv:=Kc Kag 138
def Knw:=Kl [Kaf,Kdz,Kay,Kdr]
def Knx:=Kc Kaf Kgw
def Kny:=Kc Kaf 132
def Knz:=Kl [19866]
def Koa:=Kc 135 Kaf
def Kob:=Kc 132 Kah
def Koc:=Kc 130 Kdt
def Kod:=Kl [18560]
def Koe:=Kl [Klx,Kab,Kmy]
def Kof:=Kc Klc Kjx
def Kog:=Kl [Kku,Kab,Kjh]
def Koh:=Kc Kkp Kfr
def Koi:=Kl [Kkd,Kad,164]
def Koj:=Kc Kgn 136
def Kok:=Kl [Key,Kbn,Kkc]
def Kol:=Kc Kew 129
def Kom:=Kl [146,Kad,146,Kad,146,Kab,Kdk]
def Kon:=Kl [Kdh,Kac,Kdh]
def Koo:=Kc Kcj 136
def Kop:=Kc Kbr Kaf
def Koq:=Kc Kak Kac
def Kor:=Kc Kaa Kan
def Kos:=Kc Kaa Kaf
def Kot:=Kc 167 Kka
def Kou:=Kl [21156]
def Kov:=Kl [16410]
def Kow:=Kl [146,Kab,146,Kag,18706,Kff]
def Kox:=Kl [16390]
def Koy:=Kl [20480]
def Koz:=Kl [19200]
def Kpa:=Kc Kkh Knt
def Kpb:=Kl [Kjt,Kdy,Kkl]
def Kpc:=Kl [Khy,Kea,Kah,Khz]
def Kpd:=Kl [Kiq,Khq,Kap,Kav,Kav,Kag,130,Kai,Kiv,Kik,Kar,Kal,Kfq,Kai,255]
def Kpe:=Kc Khc Khc
def Kpf:=Kl [Kfq,Kbi,Kbi]
def Kpg:=Kc Keq 145
def Kph:=Kl [Kdi,Kln,Kcc,Kii,Kkn,Kbn,Keq,18560]
def Kpi:=Kc Kcv Kba
def Kpj:=Kc Kbr Kac
def Kpk:=Kl [Kbb,Kay,Kay,Kkr,Kay,Kek]
def Kpl:=Kc Kaz 128
def Kpm:=Kl [Kaw,Klt,Kcg,Kat,Kbc,Kae]
def Kpn:=Kc Kan Koc
def Kpo:=Kc Kak Kaf
def Kpp:=Kc Kaf 139
def Kpq:=Kc Kad 165
def Kpr:=Kc Kab 129
def Kps:=Kc Kaa 133
def Kpt:=Kl [20898]
def Kpu:=Kc 155 Kjq
def Kpv:=Kl [147,Kah,147,Kad,18835,Klu]
def Kpw:=Kc 145 Kne
def Kpx:=Kl [18447]
def Kpy:=Kc 128 Kjv
def Kpz:=Kc 128 Kbf
def Kqa:=Kl [20096]
def Kqb:=Kl [19968]
def Kqc:=Kl [19072]
def Kqd:=Kc Kov 155
def Kqe:=Kl [Knj,Kiw,144]
def Kqf:=Kc Kmv Khk
def Kqg:=Kl [Kmu,Kad,163]
def Kqh:=Kc Kmt Kit
def Kqi:=Kc Klz Kaq
def Kqj:=Kc Kli Kgo
def Kqk:=Kl [Khy,Kea,Kab,Khz]
def Kql:=Kl [Kiw,Kag,Knm]
def Kqm:=Kl [Kiq,Kab,Khq,Kap,Kav,Kav,Kag,130,Kai,Kiv,Kik,Kar,Kal,Kfq,Kai,255]
def Kqn:=Kl [Kgi,Kad,156,Kah,Kgr]
def Kqo:=Kc Khi Kac
def Kqp:=Kl [132,Kak,Kmc]
def Kqq:=Kl [136,Kah,Kbj,Kaz,Kcx]
def Kqr:=Kc Keg 140
def Kqs:=Kc Kda Kmo
def Kqt:=Kc Kcw Kbn
def Kqu:=Kc Kcj 137
def Kqv:=Kl [Kcf,Ken,Kkg,Kaw,Khe,Klk,Kak,Khe,Klo,Kae]
def Kqw:=Kl [Kcd,Kdv,Kdv,Kld,Kfy,137]
def Kqx:=Kc Kba Kcv
def Kqy:=Kc Kat Kjs
def Kqz:=Kc Kah Kgz
def Kra:=Kc Kag 140
def Krb:=Kc Kaf Kbn
def Krc:=Kc Kaf 138
def Krd:=Kc Kaa Kaq
def Kre:=Kc 174 Klf
def Krf:=Kc 172 Klg
def Krg:=Kl [22188]
def Krh:=Kl [21931]
def Kri:=Kl [21543]
def Krj:=Kl [21027]
def Krk:=Kl [16414]
def Krl:=Kl [20125]
def Krm:=Kl [19995]
def Krn:=Kl [146,Kah,146,Kad,18706,Kff]
def Kro:=Kl [18706]
def Krp:=Kl [18448]
def Krq:=Kl [130,Kag,130,Kag,Kdd]
def Krr:=Kl [21120]
section
open PySem PySem.W PySem.W.X PyProof.Rows PySem.Calls PySem.Spec
noncomputable abbrev Z (s : String) : Str := Str.ofString s
noncomputable def rn (y : Nat → Nat) (i n : Nat) (l : List Nat) : List Nat := @Nat.rec (fun _ => Nat → List Nat) (fun _ => l) (fun _ r i => y i :: r (Nat.succ i)) n i
noncomputable def vS (s : String) (t : Nat) : Value := .str (Z s) t
noncomputable def vI (n : Int) (t : Nat) : Value := .int n t
noncomputable def eS (P : Params) (s : String) (t : Nat) (v : Value) : DictEntry := ⟨PyData.keyHash P (Z s), vS s t, v⟩
noncomputable def nthSt (l : List Stmt) : Nat → Stmt := @List.rec Stmt (fun _ => Nat → Stmt) (fun _ => .Pass default) (fun s _ ih k => @Nat.rec (fun _ => Stmt) s (fun k _ => ih k) k) l
noncomputable def topSt (i : Nat) : Stmt := nthSt PySem.Challenge.pw_pc0088_01.main.body i
noncomputable def clsSt (s : Stmt) (j : Nat) : Stmt := match s with
  | .ClassDef _ _ _ b _ _ _ _ _ _ _ => nthSt b j
  | _ => .Pass default
noncomputable def fO (s : Stmt) (qual : String) (pm code : Value) : Obj := match s with
  | .FunctionDef name args body _ _ _ scope _ _ _ => { cls := .type "function", data := .func { name := name, qualname := Z qual, params := args, body := .stmts body, scope := scope, globals := 3, closure := [], defaults := .none, kwdefaults := .none, pyModule := pm, code := code, builtins := 0 } }
  | _ => default
noncomputable def o0 (P : Params) : Obj := ⟨(.type "dict"), none, .dict ([eS P "__name__" 1 (vS "builtins" 160), eS P "__doc__" 2 (.builtin "builtins.__doc__:str#opaque"), eS P "__package__" 3 (.builtin "builtins.__package__:str#opaque"), eS P "__loader__" 4 (.builtin "builtins.__loader__:shared#opaque"), eS P "__spec__" 5 (.builtin "builtins.__spec__#opaque"), eS P "__build_class__" 6 (.builtin "__build_class__"), eS P "__import__" 7 (.builtin "__import__"), eS P "abs" 8 (.builtin "abs"), eS P "all" 9 (.builtin "all"), eS P "any" 10 (.builtin "any"), eS P "ascii" 11 (.builtin "ascii"), eS P "bin" 12 (.builtin "bin"), eS P "breakpoint" 13 (.builtin "breakpoint"), eS P "callable" 14 (.builtin "callable"), eS P "chr" 15 (.builtin "chr"), eS P "compile" 16 (.builtin "compile"), eS P "delattr" 17 (.builtin "delattr"), eS P "dir" 18 (.builtin "dir"), eS P "divmod" 19 (.builtin "divmod"), eS P "eval" 20 (.builtin "eval"), eS P "exec" 21 (.builtin "exec"), eS P "format" 22 (.builtin "format"), eS P "getattr" 23 (.builtin "getattr"), eS P "globals" 24 (.builtin "globals"), eS P "hasattr" 25 (.builtin "hasattr"), eS P "hash" 26 (.builtin "hash"), eS P "hex" 27 (.builtin "hex"), eS P "id" 28 (.builtin "id"), eS P "input" 29 (.builtin "input"), eS P "isinstance" 30 (.builtin "isinstance"), eS P "issubclass" 31 (.builtin "issubclass"), eS P "iter" 32 (.builtin "iter"), eS P "aiter" 33 (.builtin "aiter"), eS P "len" 34 (.builtin "len"), eS P "locals" 35 (.builtin "locals"), eS P "max" 36 (.builtin "max"), eS P "min" 37 (.builtin "min"), eS P "next" 38 (.builtin "next"), eS P "anext" 39 (.builtin "anext"), eS P "oct" 40 (.builtin "oct"), eS P "ord" 41 (.builtin "ord"), eS P "pow" 42 (.builtin "pow"), eS P "print" 43 (.builtin "print"), eS P "repr" 44 (.builtin "repr"), eS P "round" 45 (.builtin "round"), eS P "setattr" 46 (.builtin "setattr"), eS P "sorted" 47 (.builtin "sorted"), eS P "sum" 48 (.builtin "sum"), eS P "vars" 49 (.builtin "vars"), eS P "None" 50 .none, eS P "Ellipsis" 51 .ellipsis, eS P "NotImplemented" 52 .notImplemented, eS P "False" 53 (.bool false), eS P "True" 54 (.bool true), eS P "bool" 55 (.type "bool"), eS P "memoryview" 56 (.type "memoryview"), eS P "bytearray" 57 (.type "bytearray"), eS P "bytes" 58 (.type "bytes"), eS P "classmethod" 59 (.type "classmethod"), eS P "complex" 60 (.type "complex"), eS P "dict" 61 (.type "dict"), eS P "enumerate" 62 (.type "enumerate"), eS P "filter" 63 (.type "filter"), eS P "float" 64 (.type "float"), eS P "frozenset" 65 (.type "frozenset"), eS P "property" 66 (.type "property"), eS P "int" 67 (.type "int"), eS P "list" 68 (.type "list"), eS P "map" 69 (.type "map"), eS P "object" 70 (.type "object"), eS P "range" 71 (.type "range"), eS P "reversed" 72 (.type "reversed"), eS P "set" 73 (.type "set"), eS P "slice" 74 (.type "slice"), eS P "staticmethod" 75 (.type "staticmethod"), eS P "str" 76 (.type "str"), eS P "super" 77 (.type "super"), eS P "tuple" 78 (.type "tuple"), eS P "type" 79 (.type "type"), eS P "zip" 80 (.type "zip"), eS P "__debug__" 81 (.bool true), eS P "BaseException" 82 (.type "BaseException"), eS P "BaseExceptionGroup" 83 (.type "BaseExceptionGroup"), eS P "Exception" 84 (.type "Exception"), eS P "GeneratorExit" 85 (.type "GeneratorExit"), eS P "KeyboardInterrupt" 86 (.type "KeyboardInterrupt"), eS P "SystemExit" 87 (.type "SystemExit"), eS P "ArithmeticError" 88 (.type "ArithmeticError"), eS P "AssertionError" 89 (.type "AssertionError"), eS P "AttributeError" 90 (.type "AttributeError"), eS P "BufferError" 91 (.type "BufferError"), eS P "EOFError" 92 (.type "EOFError"), eS P "ImportError" 93 (.type "ImportError"), eS P "LookupError" 94 (.type "LookupError"), eS P "MemoryError" 95 (.type "MemoryError"), eS P "NameError" 96 (.type "NameError"), eS P "OSError" 97 (.type "OSError"), eS P "ReferenceError" 98 (.type "ReferenceError"), eS P "RuntimeError" 99 (.type "RuntimeError"), eS P "StopAsyncIteration" 100 (.type "StopAsyncIteration"), eS P "StopIteration" 101 (.type "StopIteration"), eS P "SyntaxError" 102 (.type "SyntaxError"), eS P "SystemError" 103 (.type "SystemError"), eS P "TypeError" 104 (.type "TypeError"), eS P "ValueError" 105 (.type "ValueError"), eS P "Warning" 106 (.type "Warning"), eS P "FloatingPointError" 107 (.type "FloatingPointError"), eS P "OverflowError" 108 (.type "OverflowError"), eS P "ZeroDivisionError" 109 (.type "ZeroDivisionError"), eS P "BytesWarning" 110 (.type "BytesWarning"), eS P "DeprecationWarning" 111 (.type "DeprecationWarning"), eS P "EncodingWarning" 112 (.type "EncodingWarning"), eS P "FutureWarning" 113 (.type "FutureWarning"), eS P "ImportWarning" 114 (.type "ImportWarning"), eS P "PendingDeprecationWarning" 115 (.type "PendingDeprecationWarning"), eS P "ResourceWarning" 116 (.type "ResourceWarning"), eS P "RuntimeWarning" 117 (.type "RuntimeWarning"), eS P "SyntaxWarning" 118 (.type "SyntaxWarning"), eS P "UnicodeWarning" 119 (.type "UnicodeWarning"), eS P "UserWarning" 120 (.type "UserWarning"), eS P "BlockingIOError" 121 (.type "BlockingIOError"), eS P "ChildProcessError" 122 (.type "ChildProcessError"), eS P "ConnectionError" 123 (.type "ConnectionError"), eS P "FileExistsError" 124 (.type "FileExistsError"), eS P "FileNotFoundError" 125 (.type "FileNotFoundError"), eS P "InterruptedError" 126 (.type "InterruptedError"), eS P "IsADirectoryError" 127 (.type "IsADirectoryError"), eS P "NotADirectoryError" 128 (.type "NotADirectoryError"), eS P "PermissionError" 129 (.type "PermissionError"), eS P "ProcessLookupError" 130 (.type "ProcessLookupError"), eS P "TimeoutError" 131 (.type "TimeoutError"), eS P "IndentationError" 132 (.type "IndentationError"), eS P "_IncompleteInputError" 133 (.type "_IncompleteInputError"), eS P "IndexError" 134 (.type "IndexError"), eS P "KeyError" 135 (.type "KeyError"), eS P "ModuleNotFoundError" 136 (.type "ModuleNotFoundError"), eS P "NotImplementedError" 137 (.type "NotImplementedError"), eS P "PythonFinalizationError" 138 (.type "PythonFinalizationError"), eS P "RecursionError" 139 (.type "RecursionError"), eS P "UnboundLocalError" 140 (.type "UnboundLocalError"), eS P "UnicodeError" 141 (.type "UnicodeError"), eS P "BrokenPipeError" 142 (.type "BrokenPipeError"), eS P "ConnectionAbortedError" 143 (.type "ConnectionAbortedError"), eS P "ConnectionRefusedError" 144 (.type "ConnectionRefusedError"), eS P "ConnectionResetError" 145 (.type "ConnectionResetError"), eS P "TabError" 146 (.type "TabError"), eS P "UnicodeDecodeError" 147 (.type "UnicodeDecodeError"), eS P "UnicodeEncodeError" 148 (.type "UnicodeEncodeError"), eS P "UnicodeTranslateError" 149 (.type "UnicodeTranslateError"), eS P "ExceptionGroup" 150 (.type "ExceptionGroup"), eS P "EnvironmentError" 151 (.type "OSError"), eS P "IOError" 152 (.type "OSError"), eS P "open" 153 (.builtin "open"), eS P "quit" 154 (.builtin "builtins.quit#opaque"), eS P "exit" 155 (.builtin "builtins.exit#opaque"), eS P "copyright" 156 (.builtin "builtins.copyright#opaque"), eS P "credits" 157 (.builtin "builtins.credits#opaque"), eS P "license" 158 (.builtin "builtins.license#opaque"), eS P "help" 159 (.builtin "builtins.help#opaque")]).toArray 159, ([]).toArray⟩
noncomputable def o2 (P : Params) : Obj := ⟨.none, none, .dict ([eS P "type.__subclasses__.Exception.0" 858 (vI 359 0), eS P "type.__subclasses__.Exception.n" 859 (vI 1 0)]).toArray 2, ([]).toArray⟩
noncomputable def o3 (P : Params) : Obj := ⟨(.type "dict"), none, .dict ([eS P "__name__" 165 (vS "law_pc0088_01" 1622), eS P "__doc__" 166 .none, eS P "__package__" 167 .none, eS P "__loader__" 168 (.builtin "__main__.__loader__#opaque"), eS P "__spec__" 169 .none, eS P "__annotations__" 170 (.ref 6), eS P "__builtins__" 171 (.ref 4), eS P "__file__" 173 (vS "/claim/cut.py" 172), eS P "__cached__" 174 .none, eS P "_wall" 193 (.ref 21), eS P "Node" 229 (.ref 38), eS P "BLANKS" 243 (.ref 43), eS P "LINE_ENDS" 248 (.ref 44), eS P "LETTERS" 313 (.ref 77), eS P "PARTS" 326 (.ref 84), eS P "is_among" 336 (.ref 91), eS P "is_white" 343 (.ref 98), eS P "is_line_end" 350 (.ref 105), eS P "is_digit" 357 (.ref 112), eS P "is_octal_digit" 364 (.ref 119), eS P "hex_value" 371 (.ref 126), eS P "is_id_start" 378 (.ref 133), eS P "is_id_part" 385 (.ref 140), eS P "SIGN_BIT" 391 (vI 9223372036854775808 390), eS P "FRACTION_BITS" 393 (vI 52 392), eS P "HIDDEN_BIT" 397 (vI 4503599627370496 396), eS P "EXPONENT_MASK" 399 (vI 2047 398), eS P "EXPONENT_SHIFT" 401 (vI 1075 400), eS P "LEAST_POWER" 404 (vI (-1074) 403), eS P "ZERO" 406 (vI 0 405), eS P "INF" 410 (vI 9218868437227405312 409), eS P "width" 419 (.ref 147), eS P "pack" 428 (.ref 154), eS P "signed" 436 (.ref 161), eS P "quotient" 445 (.ref 168), eS P "round_ratio" 458 (.ref 175), eS P "assembled" 468 (.ref 182), eS P "from_int" 475 (.ref 189), eS P "SINGLE" 496 (.ref 190), eS P "code_at" 504 (.ref 197), eS P "hex_at" 516 (.ref 204), eS P "line_end_size" 524 (.ref 211), eS P "octal_escape" 535 (.ref 218), eS P "read_escape" 548 (.ref 225), eS P "FARTHEST" 552 (vI 400 551), eS P "figure_of" 559 (.ref 232), eS P "worth" 571 (.ref 239), eS P "from_decimal" 582 (.ref 246), eS P "KEYWORDS" 621 (.ref 247), eS P "PUNCTS" 670 (.ref 248), eS P "PUNCT_TABLE" 770 (.ref 302), eS P "Token" 811 (.ref 324), eS P "is_keyword" 818 (.ref 335), eS P "punct_at" 828 (.ref 342), eS P "SyntaxFail" 861 (.ref 359), eS P "Lexer" 1064 (.ref 505), eS P "STRICT_WORDS" 1076 (.ref 510), eS P "RESTRICTED" 1079 (.ref 511), eS P "TARGETS" 1083 (.ref 512), eS P "name_fault" 1091 (.ref 519), eS P "binding_fault" 1099 (.ref 526), eS P "target_fault" 1108 (.ref 533), eS P "delete_fault" 1116 (.ref 540), eS P "octal_fault" 1124 (.ref 547), eS P "Jumps" 1178 (.ref 585), eS P "MOST_NESTED" 1182 (vI 40 1181), eS P "TokenTaker" 1345 (.ref 725), eS P "PRIORITY" 1417 (.ref 730), eS P "ASSIGNING" 1430 (.ref 732), eS P "UNARY_SIGNS" 1435 (.ref 733), eS P "UNARY_WORDS" 1439 (.ref 734), eS P "STEPS" 1442 (.ref 735), eS P "ExprParser" 1621 (.ref 871), eS P "_law_signs" 1629 (.ref 880), eS P "_law_pick" 1637 (.ref 887), eS P "_law_name" 1644 (.ref 894), eS P "_law_two" 1653 (.ref 901), eS P "_law_operands" 1659 (.ref 906), eS P "_law_rows" 1665 (.ref 911), eS P "_law_line" 1673 (.ref 918), eS P "_law_lines_right" 1686 (.ref 925), eS P "law" 1692 (.ref 930)]).toArray 82, ([]).toArray⟩
noncomputable def o34 (_P : Params) : Obj := ⟨(.type "code"), none, .fields ([(vS "__init__" 208), (vS "Node.__init__" 209), (vS "/claim/cut.py" 210), (vI 7 0), (vI 4 0), (vI 0 0), (vI 0 0), (vI 3 0), (.ref 29), (.bool true), (vI 181 0), (.ref 30), .none, (.ref 31), (.ref 32), (.ref 33), (vI 215 0), (vI 7 0), (vS "/claim/cut.py" 216)]).toArray, ([]).toArray⟩
noncomputable def o35 (_P : Params) : Obj := fO (clsSt (topSt 2) 0) "Node.__init__" (vS "js.nodes" 194) (.ref 34)
noncomputable def o37 (P : Params) : Obj := ⟨(.type "dict"), none, .dict ([eS P "__module__" 203 (vS "js.nodes" 194), eS P "__firstlineno__" 207 (vI 5 206), eS P "__init__" 217 (.ref 35), eS P "__static_attributes__" 222 (.ref 36), eS P "__dict__" 224 (.ref 39), eS P "__weakref__" 226 (.ref 40), eS P "__doc__" 227 .none]).toArray 4, ([]).toArray⟩
noncomputable def o38 (_P : Params) : Obj := ⟨(.type "type"), none, .cls { name := .ofString "Node", bases := [(.type "object")], mro := [(.ref 38), (.type "object")], ns := 37, qualname := .ofString "Node", hasDict := true, slotNames := [], subclasses := [], abstract := false, collection := none, hasDel := false }, ([none, none, (some (vS "Node" 196)), (some (vS "Node" 204)), (some (.builtin "object.__new__")), (some (.bool true))]).toArray⟩
noncomputable def o43 (_P : Params) : Obj := ⟨(.type "list"), none, .seq ([(vI 9 232), (vI 11 233), (vI 12 234), (vI 32 235), (vI 160 236), (vI 5760 237), (vI 6158 238), (vI 8239 239), (vI 8287 240), (vI 12288 241), (vI 65279 242)]).toArray 0, ([]).toArray⟩
noncomputable def o44 (_P : Params) : Obj := ⟨(.type "list"), none, .seq ([(vI 10 244), (vI 13 245), (vI 8232 246), (vI 8233 247)]).toArray 0, ([]).toArray⟩
noncomputable def o97 (_P : Params) : Obj := ⟨(.type "code"), none, .fields ([(vS "is_white" 337), (vS "is_white" 338), (vS "/claim/cut.py" 339), (vI 22 0), (vI 1 0), (vI 0 0), (vI 0 0), (vI 3 0), (.ref 92), (.bool true), (vI 181 0), (.ref 93), .none, (.ref 94), (.ref 95), (.ref 96), (vI 341 0), (vI 22 0), (vS "/claim/cut.py" 342)]).toArray, ([]).toArray⟩
noncomputable def o98 (_P : Params) : Obj := fO (topSt 9) "is_white" (vS "js.chars" 230) (.ref 97)
noncomputable def o104 (_P : Params) : Obj := ⟨(.type "code"), none, .fields ([(vS "is_line_end" 344), (vS "is_line_end" 345), (vS "/claim/cut.py" 346), (vI 24 0), (vI 1 0), (vI 0 0), (vI 0 0), (vI 3 0), (.ref 99), (.bool true), (vI 181 0), (.ref 100), .none, (.ref 101), (.ref 102), (.ref 103), (vI 348 0), (vI 24 0), (vS "/claim/cut.py" 349)]).toArray, ([]).toArray⟩
noncomputable def o105 (_P : Params) : Obj := fO (topSt 10) "is_line_end" (vS "js.chars" 230) (.ref 104)
noncomputable def o111 (_P : Params) : Obj := ⟨(.type "code"), none, .fields ([(vS "is_digit" 351), (vS "is_digit" 352), (vS "/claim/cut.py" 353), (vI 26 0), (vI 1 0), (vI 0 0), (vI 0 0), (vI 3 0), (.ref 106), (.bool true), (vI 181 0), (.ref 107), .none, (.ref 108), (.ref 109), (.ref 110), (vI 355 0), (vI 26 0), (vS "/claim/cut.py" 356)]).toArray, ([]).toArray⟩
noncomputable def o112 (_P : Params) : Obj := fO (topSt 11) "is_digit" (vS "js.chars" 230) (.ref 111)
noncomputable def o132 (_P : Params) : Obj := ⟨(.type "code"), none, .fields ([(vS "is_id_start" 372), (vS "is_id_start" 373), (vS "/claim/cut.py" 374), (vI 36 0), (vI 1 0), (vI 0 0), (vI 0 0), (vI 3 0), (.ref 127), (.bool true), (vI 181 0), (.ref 128), .none, (.ref 129), (.ref 130), (.ref 131), (vI 376 0), (vI 36 0), (vS "/claim/cut.py" 377)]).toArray, ([]).toArray⟩
noncomputable def o133 (_P : Params) : Obj := fO (topSt 14) "is_id_start" (vS "js.chars" 230) (.ref 132)
noncomputable def o139 (_P : Params) : Obj := ⟨(.type "code"), none, .fields ([(vS "is_id_part" 379), (vS "is_id_part" 380), (vS "/claim/cut.py" 381), (vI 40 0), (vI 1 0), (vI 0 0), (vI 0 0), (vI 3 0), (.ref 134), (.bool true), (vI 181 0), (.ref 135), .none, (.ref 136), (.ref 137), (.ref 138), (vI 383 0), (vI 40 0), (vS "/claim/cut.py" 384)]).toArray, ([]).toArray⟩
noncomputable def o140 (_P : Params) : Obj := fO (topSt 15) "is_id_part" (vS "js.chars" 230) (.ref 139)
noncomputable def o196 (_P : Params) : Obj := ⟨(.type "code"), none, .fields ([(vS "code_at" 497), (vS "code_at" 498), (vS "/claim/cut.py" 499), (vI 95 0), (vI 2 0), (vI 0 0), (vI 0 0), (vI 3 0), (.ref 191), (.bool true), (vI 181 0), (.ref 192), .none, (.ref 193), (.ref 194), (.ref 195), (vI 502 0), (vI 95 0), (vS "/claim/cut.py" 503)]).toArray, ([]).toArray⟩
noncomputable def o197 (_P : Params) : Obj := fO (topSt 34) "code_at" (vS "js.escapes" 476) (.ref 196)
noncomputable def o210 (_P : Params) : Obj := ⟨(.type "code"), none, .fields ([(vS "line_end_size" 517), (vS "line_end_size" 518), (vS "/claim/cut.py" 519), (vI 105 0), (vI 2 0), (vI 0 0), (vI 0 0), (vI 3 0), (.ref 205), (.bool true), (vI 181 0), (.ref 206), .none, (.ref 207), (.ref 208), (.ref 209), (vI 522 0), (vI 105 0), (vS "/claim/cut.py" 523)]).toArray, ([]).toArray⟩
noncomputable def o211 (_P : Params) : Obj := fO (topSt 36) "line_end_size" (vS "js.escapes" 476) (.ref 210)
noncomputable def o247 (_P : Params) : Obj := ⟨(.type "list"), none, .seq ([(vS "break" 585), (vS "case" 586), (vS "catch" 587), (vS "continue" 588), (vS "debugger" 589), (vS "default" 590), (vS "delete" 591), (vS "do" 592), (vS "else" 593), (vS "finally" 594), (vS "for" 595), (vS "function" 596), (vS "if" 597), (vS "in" 598), (vS "instanceof" 599), (vS "new" 600), (vS "return" 601), (vS "switch" 602), (vS "this" 603), (vS "throw" 604), (vS "try" 605), (vS "typeof" 606), (vS "var" 607), (vS "void" 608), (vS "while" 609), (vS "with" 610), (vS "class" 611), (vS "const" 612), (vS "enum" 613), (vS "export" 614), (vS "extends" 615), (.str ⟨#[105, 109, 112, 111, 114, 116]⟩ 616), (vS "super" 617), (vS "null" 618), (vS "true" 619), (vS "false" 620)]).toArray 0, ([]).toArray⟩
noncomputable def o302 (P : Params) : Obj := ⟨(.type "dict"), none, .dict ([eS P ">>>=" 622 (.bool true), eS P "===" 623 (.bool true), eS P "!==" 624 (.bool true), eS P ">>>" 625 (.bool true), eS P "<<=" 626 (.bool true), eS P ">>=" 627 (.bool true), eS P "<=" 628 (.bool true), eS P ">=" 629 (.bool true), eS P "==" 630 (.bool true), eS P "!=" 631 (.bool true), eS P "++" 632 (.bool true), eS P "--" 633 (.bool true), eS P "<<" 634 (.bool true), eS P ">>" 635 (.bool true), eS P "&&" 636 (.bool true), eS P "||" 637 (.bool true), eS P "+=" 638 (.bool true), eS P "-=" 639 (.bool true), eS P "*=" 640 (.bool true), eS P "%=" 641 (.bool true), eS P "&=" 642 (.bool true), eS P "|=" 643 (.bool true), eS P "^=" 644 (.bool true), eS P "/=" 645 (.bool true), eS P "{" 646 (.bool true), eS P "}" 647 (.bool true), eS P "(" 648 (.bool true), eS P ")" 649 (.bool true), eS P "[" 650 (.bool true), eS P "]" 651 (.bool true), eS P "." 652 (.bool true), eS P ";" 653 (.bool true), eS P "," 654 (.bool true), eS P "<" 655 (.bool true), eS P ">" 656 (.bool true), eS P "+" 657 (.bool true), eS P "-" 658 (.bool true), eS P "*" 659 (.bool true), eS P "%" 660 (.bool true), eS P "&" 661 (.bool true), eS P "|" 662 (.bool true), eS P "^" 663 (.bool true), eS P "!" 664 (.bool true), eS P "~" 665 (.bool true), eS P "?" 666 (.bool true), eS P ":" 667 (.bool true), eS P "=" 668 (.bool true), eS P "/" 669 (.bool true)]).toArray 48, ([]).toArray⟩
noncomputable def o320 (_P : Params) : Obj := ⟨(.type "code"), none, .fields ([(vS "__init__" 783), (vS "Token.__init__" 784), (vS "/claim/cut.py" 785), (vI 165 0), (vI 7 0), (vI 0 0), (vI 0 0), (vI 3 0), (.ref 315), (.bool true), (vI 181 0), (.ref 316), .none, (.ref 317), (.ref 318), (.ref 319), (vI 793 0), (vI 165 0), (vS "/claim/cut.py" 794)]).toArray, ([]).toArray⟩
noncomputable def o321 (_P : Params) : Obj := fO (clsSt (topSt 48) 0) "Token.__init__" (vS "js.tokens" 583) (.ref 320)
noncomputable def o323 (P : Params) : Obj := ⟨(.type "dict"), none, .dict ([eS P "__module__" 778 (vS "js.tokens" 583), eS P "__firstlineno__" 782 (vI 163 781), eS P "__init__" 795 (.ref 321), eS P "__static_attributes__" 804 (.ref 322), eS P "__dict__" 806 (.ref 325), eS P "__weakref__" 808 (.ref 326), eS P "__doc__" 809 .none]).toArray 4, ([]).toArray⟩
noncomputable def o324 (_P : Params) : Obj := ⟨(.type "type"), none, .cls { name := .ofString "Token", bases := [(.type "object")], mro := [(.ref 324), (.type "object")], ns := 323, qualname := .ofString "Token", hasDict := true, slotNames := [], subclasses := [], abstract := false, collection := none, hasDel := false }, ([none, none, (some (vS "Token" 771)), (some (vS "Token" 779)), (some (.builtin "object.__new__")), (some (.bool true))]).toArray⟩
noncomputable def o334 (_P : Params) : Obj := ⟨(.type "code"), none, .fields ([(vS "is_keyword" 812), (vS "is_keyword" 813), (vS "/claim/cut.py" 814), (vI 174 0), (vI 1 0), (vI 0 0), (vI 0 0), (vI 3 0), (.ref 329), (.bool true), (vI 181 0), (.ref 330), .none, (.ref 331), (.ref 332), (.ref 333), (vI 816 0), (vI 174 0), (vS "/claim/cut.py" 817)]).toArray, ([]).toArray⟩
noncomputable def o335 (_P : Params) : Obj := fO (topSt 49) "is_keyword" (vS "js.tokens" 583) (.ref 334)
noncomputable def o341 (_P : Params) : Obj := ⟨(.type "code"), none, .fields ([(vS "punct_at" 819), (vS "punct_at" 820), (vS "/claim/cut.py" 821), (vI 176 0), (vI 2 0), (vI 0 0), (vI 0 0), (vI 3 0), (.ref 336), (.bool true), (vI 181 0), (.ref 337), .none, (.ref 338), (.ref 339), (.ref 340), (vI 826 0), (vI 176 0), (vS "/claim/cut.py" 827)]).toArray, ([]).toArray⟩
noncomputable def o342 (_P : Params) : Obj := fO (topSt 50) "punct_at" (vS "js.tokens" 583) (.ref 341)
noncomputable def o355 (_P : Params) : Obj := ⟨(.type "code"), none, .fields ([(vS "__init__" 843), (vS "SyntaxFail.__init__" 844), (vS "/claim/cut.py" 845), (vI 185 0), (vI 3 0), (vI 0 0), (vI 0 0), (vI 3 0), (.ref 350), (.bool true), (vI 181 0), (.ref 351), .none, (.ref 352), (.ref 353), (.ref 354), (vI 849 0), (vI 185 0), (vS "/claim/cut.py" 850)]).toArray, ([]).toArray⟩
noncomputable def o356 (_P : Params) : Obj := fO (clsSt (topSt 52) 0) "SyntaxFail.__init__" (vS "js.values" 829) (.ref 355)
noncomputable def o358 (P : Params) : Obj := ⟨(.type "dict"), none, .dict ([eS P "__module__" 838 (vS "js.values" 829), eS P "__firstlineno__" 842 (vI 183 841), eS P "__init__" 851 (.ref 356), eS P "__static_attributes__" 854 (.ref 357), eS P "__weakref__" 856 (.ref 360), eS P "__doc__" 857 .none]).toArray 3, ([]).toArray⟩
noncomputable def o359 (_P : Params) : Obj := ⟨(.type "type"), none, .cls { name := .ofString "SyntaxFail", bases := [(.type "Exception")], mro := [(.ref 359), (.type "Exception"), (.type "BaseException"), (.type "object")], ns := 358, qualname := .ofString "SyntaxFail", hasDict := true, slotNames := [], subclasses := [], abstract := false, collection := none, hasDel := false }, ([(some (.ref 343)), none, (some (vS "SyntaxFail" 831)), (some (vS "SyntaxFail" 839)), (some (.builtin "Exception.__new__")), (some (.bool true))]).toArray⟩
noncomputable def o375 (_P : Params) : Obj := ⟨(.type "code"), none, .fields ([(vS "__init__" 876), (vS "Lexer.__init__" 877), (vS "/claim/cut.py" 878), (vI 191 0), (vI 2 0), (vI 0 0), (vI 0 0), (vI 3 0), (.ref 370), (.bool true), (vI 181 0), (.ref 371), .none, (.ref 372), (.ref 373), (.ref 374), (vI 881 0), (vI 191 0), (vS "/claim/cut.py" 882)]).toArray, ([]).toArray⟩
noncomputable def o376 (_P : Params) : Obj := fO (clsSt (topSt 54) 0) "Lexer.__init__" (vS "js.lexer" 862) (.ref 375)
noncomputable def o382 (_P : Params) : Obj := ⟨(.type "code"), none, .fields ([(vS "next" 884), (vS "Lexer.next" 885), (vS "/claim/cut.py" 886), (vI 196 0), (vI 1 0), (vI 0 0), (vI 0 0), (vI 3 0), (.ref 377), (.bool true), (vI 181 0), (.ref 378), .none, (.ref 379), (.ref 380), (.ref 381), (vI 892 0), (vI 196 0), (vS "/claim/cut.py" 893)]).toArray, ([]).toArray⟩
noncomputable def o383 (_P : Params) : Obj := fO (clsSt (topSt 54) 1) "Lexer.next" (vS "js.lexer" 862) (.ref 382)
noncomputable def o396 (_P : Params) : Obj := ⟨(.type "code"), none, .fields ([(vS "end_line" 903), (vS "Lexer.end_line" 904), (vS "/claim/cut.py" 905), (vI 216 0), (vI 1 0), (vI 0 0), (vI 0 0), (vI 3 0), (.ref 391), (.bool true), (vI 181 0), (.ref 392), .none, (.ref 393), (.ref 394), (.ref 395), (vI 907 0), (vI 216 0), (vS "/claim/cut.py" 908)]).toArray, ([]).toArray⟩
noncomputable def o397 (_P : Params) : Obj := fO (clsSt (topSt 54) 3) "Lexer.end_line" (vS "js.lexer" 862) (.ref 396)
noncomputable def o403 (_P : Params) : Obj := ⟨(.type "code"), none, .fields ([(vS "skip_blanks" 910), (vS "Lexer.skip_blanks" 911), (vS "/claim/cut.py" 912), (vI 220 0), (vI 1 0), (vI 0 0), (vI 0 0), (vI 3 0), (.ref 398), (.bool true), (vI 181 0), (.ref 399), .none, (.ref 400), (.ref 401), (.ref 402), (vI 916 0), (vI 220 0), (vS "/claim/cut.py" 917)]).toArray, ([]).toArray⟩
noncomputable def o404 (_P : Params) : Obj := fO (clsSt (topSt 54) 4) "Lexer.skip_blanks" (vS "js.lexer" 862) (.ref 403)
noncomputable def o417 (_P : Params) : Obj := ⟨(.type "code"), none, .fields ([(vS "name_sign" 926), (vS "Lexer.name_sign" 927), (vS "/claim/cut.py" 928), (vI 247 0), (vI 2 0), (vI 0 0), (vI 0 0), (vI 3 0), (.ref 412), (.bool true), (vI 181 0), (.ref 413), .none, (.ref 414), (.ref 415), (.ref 416), (vI 935 0), (vI 247 0), (vS "/claim/cut.py" 936)]).toArray, ([]).toArray⟩
noncomputable def o418 (_P : Params) : Obj := fO (clsSt (topSt 54) 6) "Lexer.name_sign" (vS "js.lexer" 862) (.ref 417)
noncomputable def o424 (_P : Params) : Obj := ⟨(.type "code"), none, .fields ([(vS "read_name" 938), (vS "Lexer.read_name" 939), (vS "/claim/cut.py" 940), (vI 258 0), (vI 2 0), (vI 0 0), (vI 0 0), (vI 3 0), (.ref 419), (.bool true), (vI 181 0), (.ref 420), .none, (.ref 421), (.ref 422), (.ref 423), (vI 945 0), (vI 258 0), (vS "/claim/cut.py" 946)]).toArray, ([]).toArray⟩
noncomputable def o425 (_P : Params) : Obj := fO (clsSt (topSt 54) 7) "Lexer.read_name" (vS "js.lexer" 862) (.ref 424)
noncomputable def o501 (_P : Params) : Obj := ⟨(.type "code"), none, .fields ([(vS "read_punct" 1045), (vS "Lexer.read_punct" 1046), (vS "/claim/cut.py" 1047), (vI 387 0), (vI 2 0), (vI 0 0), (vI 0 0), (vI 3 0), (.ref 496), (.bool true), (vI 181 0), (.ref 497), .none, (.ref 498), (.ref 499), (.ref 500), (vI 1051 0), (vI 387 0), (vS "/claim/cut.py" 1052)]).toArray, ([]).toArray⟩
noncomputable def o502 (_P : Params) : Obj := fO (clsSt (topSt 54) 18) "Lexer.read_punct" (vS "js.lexer" 862) (.ref 501)
noncomputable def o504 (P : Params) : Obj := ⟨(.type "dict"), none, .dict ([eS P "__module__" 871 (vS "js.lexer" 862), eS P "__firstlineno__" 875 (vI 189 874), eS P "__init__" 883 (.ref 376), eS P "next" 894 (.ref 383), eS P "fail" 902 (.ref 390), eS P "end_line" 909 (.ref 397), eS P "skip_blanks" 918 (.ref 404), eS P "skip_comment" 925 (.ref 411), eS P "name_sign" 937 (.ref 418), eS P "read_name" 947 (.ref 425), eS P "skip_digits" 955 (.ref 432), eS P "read_number" 966 (.ref 439), eS P "read_hex" 975 (.ref 446), eS P "read_octal" 983 (.ref 453), eS P "read_decimal" 992 (.ref 460), eS P "read_exponent" 1003 (.ref 467), eS P "regex" 1014 (.ref 474), eS P "regex_body" 1024 (.ref 481), eS P "read_text" 1035 (.ref 488), eS P "escaped" 1044 (.ref 495), eS P "read_punct" 1053 (.ref 502), eS P "__static_attributes__" 1057 (.ref 503), eS P "__dict__" 1059 (.ref 506), eS P "__weakref__" 1061 (.ref 507), eS P "__doc__" 1062 .none]).toArray 4, ([]).toArray⟩
noncomputable def o505 (_P : Params) : Obj := ⟨(.type "type"), none, .cls { name := .ofString "Lexer", bases := [(.type "object")], mro := [(.ref 505), (.type "object")], ns := 504, qualname := .ofString "Lexer", hasDict := true, slotNames := [], subclasses := [], abstract := false, collection := none, hasDel := false }, ([none, none, (some (vS "Lexer" 864)), (some (vS "Lexer" 872)), (some (.builtin "object.__new__")), (some (.bool true))]).toArray⟩
noncomputable def o512 (_P : Params) : Obj := ⟨(.type "tuple"), none, .seq ([(vS "Name" 1080), (vS "Member" 1081), (vS "Index" 1082)]).toArray 0, ([]).toArray⟩
noncomputable def o518 (_P : Params) : Obj := ⟨(.type "code"), none, .fields ([(vS "name_fault" 1084), (vS "name_fault" 1085), (vS "/claim/cut.py" 1086), (vI 398 0), (vI 2 0), (vI 0 0), (vI 0 0), (vI 3 0), (.ref 513), (.bool true), (vI 181 0), (.ref 514), .none, (.ref 515), (.ref 516), (.ref 517), (vI 1089 0), (vI 398 0), (vS "/claim/cut.py" 1090)]).toArray, ([]).toArray⟩
noncomputable def o519 (_P : Params) : Obj := fO (topSt 59) "name_fault" (vS "js.strictness" 1065) (.ref 518)
noncomputable def o525 (_P : Params) : Obj := ⟨(.type "code"), none, .fields ([(vS "binding_fault" 1092), (vS "binding_fault" 1093), (vS "/claim/cut.py" 1094), (vI 402 0), (vI 2 0), (vI 0 0), (vI 0 0), (vI 3 0), (.ref 520), (.bool true), (vI 181 0), (.ref 521), .none, (.ref 522), (.ref 523), (.ref 524), (vI 1097 0), (vI 402 0), (vS "/claim/cut.py" 1098)]).toArray, ([]).toArray⟩
noncomputable def o526 (_P : Params) : Obj := fO (topSt 60) "binding_fault" (vS "js.strictness" 1065) (.ref 525)
noncomputable def o532 (_P : Params) : Obj := ⟨(.type "code"), none, .fields ([(vS "target_fault" 1100), (vS "target_fault" 1101), (vS "/claim/cut.py" 1102), (vI 406 0), (vI 3 0), (vI 0 0), (vI 0 0), (vI 3 0), (.ref 527), (.bool true), (vI 181 0), (.ref 528), .none, (.ref 529), (.ref 530), (.ref 531), (vI 1106 0), (vI 406 0), (vS "/claim/cut.py" 1107)]).toArray, ([]).toArray⟩
noncomputable def o533 (_P : Params) : Obj := fO (topSt 61) "target_fault" (vS "js.strictness" 1065) (.ref 532)
noncomputable def o560 (_P : Params) : Obj := ⟨(.type "code"), none, .fields ([(vS "__init__" 1137), (vS "Jumps.__init__" 1138), (vS "/claim/cut.py" 1139), (vI 416 0), (vI 1 0), (vI 0 0), (vI 0 0), (vI 3 0), (.ref 555), (.bool true), (vI 181 0), (.ref 556), .none, (.ref 557), (.ref 558), (.ref 559), (vI 1141 0), (vI 416 0), (vS "/claim/cut.py" 1142)]).toArray, ([]).toArray⟩
noncomputable def o561 (_P : Params) : Obj := fO (clsSt (topSt 64) 0) "Jumps.__init__" (vS "js.strictness" 1065) (.ref 560)
noncomputable def o584 (P : Params) : Obj := ⟨(.type "dict"), none, .dict ([eS P "__module__" 1132 (vS "js.strictness" 1065), eS P "__firstlineno__" 1136 (vI 414 1135), eS P "__init__" 1143 (.ref 561), eS P "label_fault" 1151 (.ref 568), eS P "break_fault" 1159 (.ref 575), eS P "continue_fault" 1167 (.ref 582), eS P "__static_attributes__" 1171 (.ref 583), eS P "__dict__" 1173 (.ref 586), eS P "__weakref__" 1175 (.ref 587), eS P "__doc__" 1176 .none]).toArray 4, ([]).toArray⟩
noncomputable def o585 (_P : Params) : Obj := ⟨(.type "type"), none, .cls { name := .ofString "Jumps", bases := [(.type "object")], mro := [(.ref 585), (.type "object")], ns := 584, qualname := .ofString "Jumps", hasDict := true, slotNames := [], subclasses := [], abstract := false, collection := none, hasDel := false }, ([none, none, (some (vS "Jumps" 1125)), (some (vS "Jumps" 1133)), (some (.builtin "object.__new__")), (some (.bool true))]).toArray⟩
noncomputable def o602 (_P : Params) : Obj := ⟨(.type "code"), none, .fields ([(vS "__init__" 1195), (vS "TokenTaker.__init__" 1196), (vS "/claim/cut.py" 1197), (vI 433 0), (vI 2 0), (vI 0 0), (vI 0 0), (vI 3 0), (.ref 597), (.bool true), (vI 181 0), (.ref 598), .none, (.ref 599), (.ref 600), (.ref 601), (vI 1200 0), (vI 433 0), (vS "/claim/cut.py" 1201)]).toArray, ([]).toArray⟩
noncomputable def o603 (_P : Params) : Obj := fO (clsSt (topSt 67) 0) "TokenTaker.__init__" (vS "js.parse_base" 1179) (.ref 602)
noncomputable def o609 (_P : Params) : Obj := ⟨(.type "code"), none, .fields ([(vS "take" 1203), (vS "TokenTaker.take" 1204), (vS "/claim/cut.py" 1205), (vI 443 0), (vI 1 0), (vI 0 0), (vI 0 0), (vI 3 0), (.ref 604), (.bool true), (vI 181 0), (.ref 605), .none, (.ref 606), (.ref 607), (.ref 608), (vI 1208 0), (vI 443 0), (vS "/claim/cut.py" 1209)]).toArray, ([]).toArray⟩
noncomputable def o610 (_P : Params) : Obj := fO (clsSt (topSt 67) 1) "TokenTaker.take" (vS "js.parse_base" 1179) (.ref 609)
noncomputable def o623 (_P : Params) : Obj := ⟨(.type "code"), none, .fields ([(vS "is_sign" 1218), (vS "TokenTaker.is_sign" 1219), (vS "/claim/cut.py" 1220), (vI 455 0), (vI 2 0), (vI 0 0), (vI 0 0), (vI 3 0), (.ref 618), (.bool true), (vI 181 0), (.ref 619), .none, (.ref 620), (.ref 621), (.ref 622), (vI 1223 0), (vI 455 0), (vS "/claim/cut.py" 1224)]).toArray, ([]).toArray⟩
noncomputable def o624 (_P : Params) : Obj := fO (clsSt (topSt 67) 3) "TokenTaker.is_sign" (vS "js.parse_base" 1179) (.ref 623)
noncomputable def o630 (_P : Params) : Obj := ⟨(.type "code"), none, .fields ([(vS "is_word" 1226), (vS "TokenTaker.is_word" 1227), (vS "/claim/cut.py" 1228), (vI 458 0), (vI 2 0), (vI 0 0), (vI 0 0), (vI 3 0), (.ref 625), (.bool true), (vI 181 0), (.ref 626), .none, (.ref 627), (.ref 628), (.ref 629), (vI 1231 0), (vI 458 0), (vS "/claim/cut.py" 1232)]).toArray, ([]).toArray⟩
noncomputable def o631 (_P : Params) : Obj := fO (clsSt (topSt 67) 4) "TokenTaker.is_word" (vS "js.parse_base" 1179) (.ref 630)
noncomputable def o637 (_P : Params) : Obj := ⟨(.type "code"), none, .fields ([(vS "eat" 1234), (vS "TokenTaker.eat" 1235), (vS "/claim/cut.py" 1236), (vI 461 0), (vI 2 0), (vI 0 0), (vI 0 0), (vI 3 0), (.ref 632), (.bool true), (vI 181 0), (.ref 633), .none, (.ref 634), (.ref 635), (.ref 636), (vI 1239 0), (vI 461 0), (vS "/claim/cut.py" 1240)]).toArray, ([]).toArray⟩
noncomputable def o638 (_P : Params) : Obj := fO (clsSt (topSt 67) 5) "TokenTaker.eat" (vS "js.parse_base" 1179) (.ref 637)
noncomputable def o644 (_P : Params) : Obj := ⟨(.type "code"), none, .fields ([(vS "need" 1242), (vS "TokenTaker.need" 1243), (vS "/claim/cut.py" 1244), (vI 467 0), (vI 2 0), (vI 0 0), (vI 0 0), (vI 3 0), (.ref 639), (.bool true), (vI 181 0), (.ref 640), .none, (.ref 641), (.ref 642), (.ref 643), (vI 1247 0), (vI 467 0), (vS "/claim/cut.py" 1248)]).toArray, ([]).toArray⟩
noncomputable def o645 (_P : Params) : Obj := fO (clsSt (topSt 67) 6) "TokenTaker.need" (vS "js.parse_base" 1179) (.ref 644)
noncomputable def o658 (_P : Params) : Obj := ⟨(.type "code"), none, .fields ([(vS "fail" 1258), (vS "TokenTaker.fail" 1259), (vS "/claim/cut.py" 1260), (vI 474 0), (vI 2 0), (vI 0 0), (vI 0 0), (vI 3 0), (.ref 653), (.bool true), (vI 181 0), (.ref 654), .none, (.ref 655), (.ref 656), (.ref 657), (vI 1263 0), (vI 474 0), (vS "/claim/cut.py" 1264)]).toArray, ([]).toArray⟩
noncomputable def o659 (_P : Params) : Obj := fO (clsSt (topSt 67) 8) "TokenTaker.fail" (vS "js.parse_base" 1179) (.ref 658)
noncomputable def o665 (_P : Params) : Obj := ⟨(.type "code"), none, .fields ([(vS "fail_for" 1266), (vS "TokenTaker.fail_for" 1267), (vS "/claim/cut.py" 1268), (vI 477 0), (vI 2 0), (vI 0 0), (vI 0 0), (vI 3 0), (.ref 660), (.bool true), (vI 181 0), (.ref 661), .none, (.ref 662), (.ref 663), (.ref 664), (vI 1271 0), (vI 477 0), (vS "/claim/cut.py" 1272)]).toArray, ([]).toArray⟩
noncomputable def o666 (_P : Params) : Obj := fO (clsSt (topSt 67) 9) "TokenTaker.fail_for" (vS "js.parse_base" 1179) (.ref 665)
noncomputable def o672 (_P : Params) : Obj := ⟨(.type "code"), none, .fields ([(vS "unexpected" 1274), (vS "TokenTaker.unexpected" 1275), (vS "/claim/cut.py" 1276), (vI 481 0), (vI 1 0), (vI 0 0), (vI 0 0), (vI 3 0), (.ref 667), (.bool true), (vI 181 0), (.ref 668), .none, (.ref 669), (.ref 670), (.ref 671), (vI 1278 0), (vI 481 0), (vS "/claim/cut.py" 1279)]).toArray, ([]).toArray⟩
noncomputable def o673 (_P : Params) : Obj := fO (clsSt (topSt 67) 10) "TokenTaker.unexpected" (vS "js.parse_base" 1179) (.ref 672)
noncomputable def o679 (_P : Params) : Obj := ⟨(.type "code"), none, .fields ([(vS "go_in" 1281), (vS "TokenTaker.go_in" 1282), (vS "/claim/cut.py" 1283), (vI 484 0), (vI 1 0), (vI 0 0), (vI 0 0), (vI 3 0), (.ref 674), (.bool true), (vI 181 0), (.ref 675), .none, (.ref 676), (.ref 677), (.ref 678), (vI 1285 0), (vI 484 0), (vS "/claim/cut.py" 1286)]).toArray, ([]).toArray⟩
noncomputable def o680 (_P : Params) : Obj := fO (clsSt (topSt 67) 11) "TokenTaker.go_in" (vS "js.parse_base" 1179) (.ref 679)
noncomputable def o686 (_P : Params) : Obj := ⟨(.type "code"), none, .fields ([(vS "go_out" 1288), (vS "TokenTaker.go_out" 1289), (vS "/claim/cut.py" 1290), (vI 489 0), (vI 1 0), (vI 0 0), (vI 0 0), (vI 3 0), (.ref 681), (.bool true), (vI 181 0), (.ref 682), .none, (.ref 683), (.ref 684), (.ref 685), (vI 1292 0), (vI 489 0), (vS "/claim/cut.py" 1293)]).toArray, ([]).toArray⟩
noncomputable def o687 (_P : Params) : Obj := fO (clsSt (topSt 67) 12) "TokenTaker.go_out" (vS "js.parse_base" 1179) (.ref 686)
noncomputable def o693 (_P : Params) : Obj := ⟨(.type "code"), none, .fields ([(vS "need_name" 1295), (vS "TokenTaker.need_name" 1296), (vS "/claim/cut.py" 1297), (vI 492 0), (vI 1 0), (vI 0 0), (vI 0 0), (vI 3 0), (.ref 688), (.bool true), (vI 181 0), (.ref 689), .none, (.ref 690), (.ref 691), (.ref 692), (vI 1299 0), (vI 492 0), (vS "/claim/cut.py" 1300)]).toArray, ([]).toArray⟩
noncomputable def o694 (_P : Params) : Obj := fO (clsSt (topSt 67) 13) "TokenTaker.need_name" (vS "js.parse_base" 1179) (.ref 693)
noncomputable def o707 (_P : Params) : Obj := ⟨(.type "code"), none, .fields ([(vS "property_name" 1309), (vS "TokenTaker.property_name" 1310), (vS "/claim/cut.py" 1311), (vI 501 0), (vI 1 0), (vI 0 0), (vI 0 0), (vI 3 0), (.ref 702), (.bool true), (vI 181 0), (.ref 703), .none, (.ref 704), (.ref 705), (.ref 706), (vI 1313 0), (vI 501 0), (vS "/claim/cut.py" 1314)]).toArray, ([]).toArray⟩
noncomputable def o708 (_P : Params) : Obj := fO (clsSt (topSt 67) 15) "TokenTaker.property_name" (vS "js.parse_base" 1179) (.ref 707)
noncomputable def o724 (P : Params) : Obj := ⟨(.type "dict"), none, .dict ([eS P "__module__" 1190 (vS "js.parse_base" 1179), eS P "__firstlineno__" 1194 (vI 431 1193), eS P "__init__" 1202 (.ref 603), eS P "take" 1210 (.ref 610), eS P "peek" 1217 (.ref 617), eS P "is_sign" 1225 (.ref 624), eS P "is_word" 1233 (.ref 631), eS P "eat" 1241 (.ref 638), eS P "need" 1249 (.ref 645), eS P "need_word" 1257 (.ref 652), eS P "fail" 1265 (.ref 659), eS P "fail_for" 1273 (.ref 666), eS P "unexpected" 1280 (.ref 673), eS P "go_in" 1287 (.ref 680), eS P "go_out" 1294 (.ref 687), eS P "need_name" 1301 (.ref 694), eS P "need_binding" 1308 (.ref 701), eS P "property_name" 1315 (.ref 708), eS P "can_end" 1322 (.ref 715), eS P "end_statement" 1329 (.ref 722), eS P "__static_attributes__" 1338 (.ref 723), eS P "__dict__" 1340 (.ref 726), eS P "__weakref__" 1342 (.ref 727), eS P "__doc__" 1343 .none]).toArray 4, ([]).toArray⟩
noncomputable def o725 (_P : Params) : Obj := ⟨(.type "type"), none, .cls { name := .ofString "TokenTaker", bases := [(.type "object")], mro := [(.ref 725), (.type "object")], ns := 724, qualname := .ofString "TokenTaker", hasDict := true, slotNames := [], subclasses := [(.ref 871)], abstract := false, collection := none, hasDel := false }, ([none, none, (some (vS "TokenTaker" 1183)), (some (vS "TokenTaker" 1191)), (some (.builtin "object.__new__")), (some (.bool true))]).toArray⟩
noncomputable def o730 (P : Params) : Obj := ⟨(.type "dict"), none, .dict ([eS P "||" 1348 (vI 1 1349), eS P "&&" 1351 (vI 2 1352), eS P "|" 1354 (vI 3 1355), eS P "^" 1357 (vI 4 1358), eS P "&" 1360 (vI 5 1361), eS P "==" 1363 (vI 6 1364), eS P "!=" 1366 (vI 6 1367), eS P "===" 1369 (vI 6 1370), eS P "!==" 1372 (vI 6 1373), eS P "<" 1375 (vI 7 1376), eS P ">" 1378 (vI 7 1379), eS P "<=" 1381 (vI 7 1382), eS P ">=" 1384 (vI 7 1385), eS P "instanceof" 1387 (vI 7 1388), eS P "in" 1390 (vI 7 1391), eS P "<<" 1393 (vI 8 1394), eS P ">>" 1396 (vI 8 1397), eS P ">>>" 1399 (vI 8 1400), eS P "+" 1401 (vI 9 1402), eS P "-" 1403 (vI 9 1404), eS P "*" 1405 (vI 10 1406), eS P "/" 1407 (vI 10 1408), eS P "%" 1409 (vI 10 1410)]).toArray 23, ([]).toArray⟩
noncomputable def o732 (_P : Params) : Obj := ⟨(.type "tuple"), none, .seq ([(vS "=" 1418), (vS "+=" 1419), (vS "-=" 1420), (vS "*=" 1421), (vS "/=" 1422), (vS "%=" 1423), (vS "<<=" 1424), (vS ">>=" 1425), (vS ">>>=" 1426), (vS "&=" 1427), (vS "^=" 1428), (vS "|=" 1429)]).toArray 0, ([]).toArray⟩
noncomputable def o733 (_P : Params) : Obj := ⟨(.type "tuple"), none, .seq ([(vS "-" 1431), (vS "+" 1432), (vS "!" 1433), (vS "~" 1434)]).toArray 0, ([]).toArray⟩
noncomputable def o734 (_P : Params) : Obj := ⟨(.type "tuple"), none, .seq ([(vS "typeof" 1436), (vS "void" 1437), (vS "delete" 1438)]).toArray 0, ([]).toArray⟩
noncomputable def o735 (_P : Params) : Obj := ⟨(.type "tuple"), none, .seq ([(vS "++" 1440), (vS "--" 1441)]).toArray 0, ([]).toArray⟩
noncomputable def o755 (_P : Params) : Obj := ⟨(.type "code"), none, .fields ([(vS "expression" 1463), (vS "ExprParser.expression" 1464), (vS "/claim/cut.py" 1465), (vI 522 0), (vI 2 0), (vI 0 0), (vI 0 0), (vI 3 0), (.ref 750), (.bool true), (vI 181 0), (.ref 751), .none, (.ref 752), (.ref 753), (.ref 754), (vI 1470 0), (vI 522 0), (vS "/claim/cut.py" 1471)]).toArray, ([]).toArray⟩
noncomputable def o756 (_P : Params) : Obj := fO (clsSt (topSt 74) 1) "ExprParser.expression" (vS "js.parse_expr" 1346) (.ref 755)
noncomputable def o762 (_P : Params) : Obj := ⟨(.type "code"), none, .fields ([(vS "assignment" 1473), (vS "ExprParser.assignment" 1474), (vS "/claim/cut.py" 1475), (vI 531 0), (vI 2 0), (vI 0 0), (vI 0 0), (vI 3 0), (.ref 757), (.bool true), (vI 181 0), (.ref 758), .none, (.ref 759), (.ref 760), (.ref 761), (vI 1480 0), (vI 531 0), (vS "/claim/cut.py" 1481)]).toArray, ([]).toArray⟩
noncomputable def o763 (_P : Params) : Obj := fO (clsSt (topSt 74) 2) "ExprParser.assignment" (vS "js.parse_expr" 1346) (.ref 762)
noncomputable def o769 (_P : Params) : Obj := ⟨(.type "code"), none, .fields ([(vS "need_target" 1483), (vS "ExprParser.need_target" 1484), (vS "/claim/cut.py" 1485), (vI 541 0), (vI 2 0), (vI 0 0), (vI 0 0), (vI 3 0), (.ref 764), (.bool true), (vI 181 0), (.ref 765), .none, (.ref 766), (.ref 767), (.ref 768), (vI 1488 0), (vI 541 0), (vS "/claim/cut.py" 1489)]).toArray, ([]).toArray⟩
noncomputable def o770 (_P : Params) : Obj := fO (clsSt (topSt 74) 3) "ExprParser.need_target" (vS "js.parse_expr" 1346) (.ref 769)
noncomputable def o776 (_P : Params) : Obj := ⟨(.type "code"), none, .fields ([(vS "conditional" 1491), (vS "ExprParser.conditional" 1492), (vS "/claim/cut.py" 1493), (vI 544 0), (vI 2 0), (vI 0 0), (vI 0 0), (vI 3 0), (.ref 771), (.bool true), (vI 181 0), (.ref 772), .none, (.ref 773), (.ref 774), (.ref 775), (vI 1498 0), (vI 544 0), (vS "/claim/cut.py" 1499)]).toArray, ([]).toArray⟩
noncomputable def o777 (_P : Params) : Obj := fO (clsSt (topSt 74) 4) "ExprParser.conditional" (vS "js.parse_expr" 1346) (.ref 776)
noncomputable def o783 (_P : Params) : Obj := ⟨(.type "code"), none, .fields ([(vS "priority" 1501), (vS "ExprParser.priority" 1502), (vS "/claim/cut.py" 1503), (vI 552 0), (vI 2 0), (vI 0 0), (vI 0 0), (vI 3 0), (.ref 778), (.bool true), (vI 181 0), (.ref 779), .none, (.ref 780), (.ref 781), (.ref 782), (vI 1506 0), (vI 552 0), (vS "/claim/cut.py" 1507)]).toArray, ([]).toArray⟩
noncomputable def o784 (_P : Params) : Obj := fO (clsSt (topSt 74) 5) "ExprParser.priority" (vS "js.parse_expr" 1346) (.ref 783)
noncomputable def o790 (_P : Params) : Obj := ⟨(.type "code"), none, .fields ([(vS "binary" 1509), (vS "ExprParser.binary" 1510), (vS "/claim/cut.py" 1511), (vI 559 0), (vI 3 0), (vI 0 0), (vI 0 0), (vI 3 0), (.ref 785), (.bool true), (vI 181 0), (.ref 786), .none, (.ref 787), (.ref 788), (.ref 789), (vI 1519 0), (vI 559 0), (vS "/claim/cut.py" 1520)]).toArray, ([]).toArray⟩
noncomputable def o791 (_P : Params) : Obj := fO (clsSt (topSt 74) 6) "ExprParser.binary" (vS "js.parse_expr" 1346) (.ref 790)
noncomputable def o797 (_P : Params) : Obj := ⟨(.type "code"), none, .fields ([(vS "unary" 1522), (vS "ExprParser.unary" 1523), (vS "/claim/cut.py" 1524), (vI 568 0), (vI 1 0), (vI 0 0), (vI 0 0), (vI 3 0), (.ref 792), (.bool true), (vI 181 0), (.ref 793), .none, (.ref 794), (.ref 795), (.ref 796), (vI 1531 0), (vI 568 0), (vS "/claim/cut.py" 1532)]).toArray, ([]).toArray⟩
noncomputable def o798 (_P : Params) : Obj := fO (clsSt (topSt 74) 7) "ExprParser.unary" (vS "js.parse_expr" 1346) (.ref 797)
noncomputable def o804 (_P : Params) : Obj := ⟨(.type "code"), none, .fields ([(vS "operand_behind" 1534), (vS "ExprParser.operand_behind" 1535), (vS "/claim/cut.py" 1536), (vI 583 0), (vI 1 0), (vI 0 0), (vI 0 0), (vI 3 0), (.ref 799), (.bool true), (vI 181 0), (.ref 800), .none, (.ref 801), (.ref 802), (.ref 803), (vI 1539 0), (vI 583 0), (vS "/claim/cut.py" 1540)]).toArray, ([]).toArray⟩
noncomputable def o805 (_P : Params) : Obj := fO (clsSt (topSt 74) 8) "ExprParser.operand_behind" (vS "js.parse_expr" 1346) (.ref 804)
noncomputable def o811 (_P : Params) : Obj := ⟨(.type "code"), none, .fields ([(vS "postfix" 1542), (vS "ExprParser.postfix" 1543), (vS "/claim/cut.py" 1544), (vI 590 0), (vI 1 0), (vI 0 0), (vI 0 0), (vI 3 0), (.ref 806), (.bool true), (vI 181 0), (.ref 807), .none, (.ref 808), (.ref 809), (.ref 810), (vI 1547 0), (vI 590 0), (vS "/claim/cut.py" 1548)]).toArray, ([]).toArray⟩
noncomputable def o812 (_P : Params) : Obj := fO (clsSt (topSt 74) 9) "ExprParser.postfix" (vS "js.parse_expr" 1346) (.ref 811)
noncomputable def o818 (_P : Params) : Obj := ⟨(.type "code"), none, .fields ([(vS "left_hand" 1550), (vS "ExprParser.left_hand" 1551), (vS "/claim/cut.py" 1552), (vI 597 0), (vI 1 0), (vI 0 0), (vI 0 0), (vI 3 0), (.ref 813), (.bool true), (vI 181 0), (.ref 814), .none, (.ref 815), (.ref 816), (.ref 817), (vI 1555 0), (vI 597 0), (vS "/claim/cut.py" 1556)]).toArray, ([]).toArray⟩
noncomputable def o819 (_P : Params) : Obj := fO (clsSt (topSt 74) 10) "ExprParser.left_hand" (vS "js.parse_expr" 1346) (.ref 818)
noncomputable def o825 (_P : Params) : Obj := ⟨(.type "code"), none, .fields ([(vS "with_members" 1558), (vS "ExprParser.with_members" 1559), (vS "/claim/cut.py" 1560), (vI 603 0), (vI 2 0), (vI 0 0), (vI 0 0), (vI 3 0), (.ref 820), (.bool true), (vI 181 0), (.ref 821), .none, (.ref 822), (.ref 823), (.ref 824), (vI 1564 0), (vI 603 0), (vS "/claim/cut.py" 1565)]).toArray, ([]).toArray⟩
noncomputable def o826 (_P : Params) : Obj := fO (clsSt (topSt 74) 11) "ExprParser.with_members" (vS "js.parse_expr" 1346) (.ref 825)
noncomputable def o832 (_P : Params) : Obj := ⟨(.type "code"), none, .fields ([(vS "creation" 1567), (vS "ExprParser.creation" 1568), (vS "/claim/cut.py" 1569), (vI 613 0), (vI 1 0), (vI 0 0), (vI 0 0), (vI 3 0), (.ref 827), (.bool true), (vI 181 0), (.ref 828), .none, (.ref 829), (.ref 830), (.ref 831), (vI 1573 0), (vI 613 0), (vS "/claim/cut.py" 1574)]).toArray, ([]).toArray⟩
noncomputable def o833 (_P : Params) : Obj := fO (clsSt (topSt 74) 12) "ExprParser.creation" (vS "js.parse_expr" 1346) (.ref 832)
noncomputable def o839 (_P : Params) : Obj := ⟨(.type "code"), none, .fields ([(vS "arguments" 1576), (vS "ExprParser.arguments" 1577), (vS "/claim/cut.py" 1578), (vI 620 0), (vI 1 0), (vI 0 0), (vI 0 0), (vI 3 0), (.ref 834), (.bool true), (vI 181 0), (.ref 835), .none, (.ref 836), (.ref 837), (.ref 838), (vI 1581 0), (vI 620 0), (vS "/claim/cut.py" 1582)]).toArray, ([]).toArray⟩
noncomputable def o840 (_P : Params) : Obj := fO (clsSt (topSt 74) 13) "ExprParser.arguments" (vS "js.parse_expr" 1346) (.ref 839)
noncomputable def o846 (_P : Params) : Obj := ⟨(.type "code"), none, .fields ([(vS "primary" 1584), (vS "ExprParser.primary" 1585), (vS "/claim/cut.py" 1586), (vI 632 0), (vI 1 0), (vI 0 0), (vI 0 0), (vI 3 0), (.ref 841), (.bool true), (vI 181 0), (.ref 842), .none, (.ref 843), (.ref 844), (.ref 845), (vI 1590 0), (vI 632 0), (vS "/claim/cut.py" 1591)]).toArray, ([]).toArray⟩
noncomputable def o847 (_P : Params) : Obj := fO (clsSt (topSt 74) 14) "ExprParser.primary" (vS "js.parse_expr" 1346) (.ref 846)
noncomputable def o853 (_P : Params) : Obj := ⟨(.type "code"), none, .fields ([(vS "word_operand" 1593), (vS "ExprParser.word_operand" 1594), (vS "/claim/cut.py" 1595), (vI 655 0), (vI 1 0), (vI 0 0), (vI 0 0), (vI 3 0), (.ref 848), (.bool true), (vI 181 0), (.ref 849), .none, (.ref 850), (.ref 851), (.ref 852), (vI 1598 0), (vI 655 0), (vS "/claim/cut.py" 1599)]).toArray, ([]).toArray⟩
noncomputable def o854 (_P : Params) : Obj := fO (clsSt (topSt 74) 15) "ExprParser.word_operand" (vS "js.parse_expr" 1346) (.ref 853)
noncomputable def o860 (_P : Params) : Obj := ⟨(.type "code"), none, .fields ([(vS "array" 1601), (vS "ExprParser.array" 1602), (vS "/claim/cut.py" 1603), (vI 669 0), (vI 1 0), (vI 0 0), (vI 0 0), (vI 3 0), (.ref 855), (.bool true), (vI 181 0), (.ref 856), .none, (.ref 857), (.ref 858), (.ref 859), (vI 1607 0), (vI 669 0), (vS "/claim/cut.py" 1608)]).toArray, ([]).toArray⟩
noncomputable def o861 (_P : Params) : Obj := fO (clsSt (topSt 74) 16) "ExprParser.array" (vS "js.parse_expr" 1346) (.ref 860)
noncomputable def o870 (P : Params) : Obj := ⟨(.type "dict"), none, .dict ([eS P "__module__" 1450 (vS "js.parse_expr" 1346), eS P "__firstlineno__" 1454 (vI 517 1453), eS P "function" 1462 (.ref 749), eS P "expression" 1472 (.ref 756), eS P "assignment" 1482 (.ref 763), eS P "need_target" 1490 (.ref 770), eS P "conditional" 1500 (.ref 777), eS P "priority" 1508 (.ref 784), eS P "binary" 1521 (.ref 791), eS P "unary" 1533 (.ref 798), eS P "operand_behind" 1541 (.ref 805), eS P "postfix" 1549 (.ref 812), eS P "left_hand" 1557 (.ref 819), eS P "with_members" 1566 (.ref 826), eS P "creation" 1575 (.ref 833), eS P "arguments" 1583 (.ref 840), eS P "primary" 1592 (.ref 847), eS P "word_operand" 1600 (.ref 854), eS P "array" 1609 (.ref 861), eS P "object" 1616 (.ref 868), eS P "__static_attributes__" 1618 (.ref 869), eS P "__doc__" 1619 .none]).toArray 2, ([]).toArray⟩
noncomputable def o871 (_P : Params) : Obj := ⟨(.type "type"), none, .cls { name := .ofString "ExprParser", bases := [(.ref 725)], mro := [(.ref 871), (.ref 725), (.type "object")], ns := 870, qualname := .ofString "ExprParser", hasDict := true, slotNames := [], subclasses := [], abstract := false, collection := none, hasDel := false }, ([(some (.ref 736)), none, (some (vS "ExprParser" 1443)), (some (vS "ExprParser" 1451)), (some (.builtin "object.__new__")), (some (.bool true))]).toArray⟩
noncomputable def o879 (_P : Params) : Obj := ⟨(.type "code"), none, .fields ([(vS "_law_signs" 1624), (vS "_law_signs" 1625), (vS "/claim/cut.py" 1626), (vI 685 0), (vI 0 0), (vI 0 0), (vI 0 0), (vI 3 0), (.ref 874), (.bool true), (vI 181 0), (.ref 875), .none, (.ref 876), (.ref 877), (.ref 878), (vI 1627 0), (vI 685 0), (vS "/claim/cut.py" 1628)]).toArray, ([]).toArray⟩
noncomputable def o880 (_P : Params) : Obj := fO (topSt 76) "_law_signs" (vS "law_pc0088_01" 1622) (.ref 879)
noncomputable def o886 (_P : Params) : Obj := ⟨(.type "code"), none, .fields ([(vS "_law_pick" 1630), (vS "_law_pick" 1631), (vS "/claim/cut.py" 1632), (vI 687 0), (vI 2 0), (vI 0 0), (vI 0 0), (vI 3 0), (.ref 881), (.bool true), (vI 181 0), (.ref 882), .none, (.ref 883), (.ref 884), (.ref 885), (vI 1635 0), (vI 687 0), (vS "/claim/cut.py" 1636)]).toArray, ([]).toArray⟩
noncomputable def o887 (_P : Params) : Obj := fO (topSt 77) "_law_pick" (vS "law_pc0088_01" 1622) (.ref 886)
noncomputable def o893 (_P : Params) : Obj := ⟨(.type "code"), none, .fields ([(vS "_law_name" 1638), (vS "_law_name" 1639), (vS "/claim/cut.py" 1640), (vI 692 0), (vI 1 0), (vI 0 0), (vI 0 0), (vI 3 0), (.ref 888), (.bool true), (vI 181 0), (.ref 889), .none, (.ref 890), (.ref 891), (.ref 892), (vI 1642 0), (vI 692 0), (vS "/claim/cut.py" 1643)]).toArray, ([]).toArray⟩
noncomputable def o894 (_P : Params) : Obj := fO (topSt 78) "_law_name" (vS "law_pc0088_01" 1622) (.ref 893)
noncomputable def o900 (_P : Params) : Obj := ⟨(.type "code"), none, .fields ([(vS "_law_two" 1645), (vS "_law_two" 1646), (vS "/claim/cut.py" 1647), (vI 694 0), (vI 3 0), (vI 0 0), (vI 0 0), (vI 3 0), (.ref 895), (.bool true), (vI 181 0), (.ref 896), .none, (.ref 897), (.ref 898), (.ref 899), (vI 1651 0), (vI 694 0), (vS "/claim/cut.py" 1652)]).toArray, ([]).toArray⟩
noncomputable def o901 (_P : Params) : Obj := fO (topSt 79) "_law_two" (vS "law_pc0088_01" 1622) (.ref 900)
noncomputable def o905 (_P : Params) : Obj := ⟨(.type "code"), none, .fields ([(vS "_law_operands" 1654), (vS "_law_operands" 1655), (vS "/claim/cut.py" 1656), (vI 696 0), (vI 0 0), (vI 0 0), (vI 0 0), (vI 3 0), (.ref 902), (.bool true), (vI 181 0), (.ref 903), .none, .none, .none, (.ref 904), (vI 1657 0), (vI 696 0), (vS "/claim/cut.py" 1658)]).toArray, ([]).toArray⟩
noncomputable def o906 (_P : Params) : Obj := fO (topSt 80) "_law_operands" (vS "law_pc0088_01" 1622) (.ref 905)
noncomputable def o910 (_P : Params) : Obj := ⟨(.type "code"), none, .fields ([(vS "_law_rows" 1660), (vS "_law_rows" 1661), (vS "/claim/cut.py" 1662), (vI 708 0), (vI 1 0), (vI 0 0), (vI 0 0), (vI 3 0), (.ref 907), (.bool true), (vI 181 0), (.ref 908), .none, .none, .none, (.ref 909), (vI 1663 0), (vI 708 0), (vS "/claim/cut.py" 1664)]).toArray, ([]).toArray⟩
noncomputable def o911 (_P : Params) : Obj := fO (topSt 81) "_law_rows" (vS "law_pc0088_01" 1622) (.ref 910)
noncomputable def o917 (_P : Params) : Obj := ⟨(.type "code"), none, .fields ([(vS "_law_line" 1666), (vS "_law_line" 1667), (vS "/claim/cut.py" 1668), (vI 712 0), (vI 1 0), (vI 0 0), (vI 0 0), (vI 3 0), (.ref 912), (.bool true), (vI 181 0), (.ref 913), .none, (.ref 914), (.ref 915), (.ref 916), (vI 1671 0), (vI 712 0), (vS "/claim/cut.py" 1672)]).toArray, ([]).toArray⟩
noncomputable def o918 (_P : Params) : Obj := fO (topSt 82) "_law_line" (vS "law_pc0088_01" 1622) (.ref 917)
noncomputable def o924 (_P : Params) : Obj := ⟨(.type "code"), none, .fields ([(vS "_law_lines_right" 1674), (vS "_law_lines_right" 1675), (vS "/claim/cut.py" 1676), (vI 718 0), (vI 1 0), (vI 0 0), (vI 0 0), (vI 3 0), (.ref 919), (.bool true), (vI 181 0), (.ref 920), .none, (.ref 921), (.ref 922), (.ref 923), (vI 1684 0), (vI 718 0), (vS "/claim/cut.py" 1685)]).toArray, ([]).toArray⟩
noncomputable def o925 (_P : Params) : Obj := fO (topSt 83) "_law_lines_right" (vS "law_pc0088_01" 1622) (.ref 924)
noncomputable def o929 (_P : Params) : Obj := ⟨(.type "code"), none, .fields ([(vS "law" 1687), (vS "law" 1688), (vS "/claim/cut.py" 1689), (vI 726 0), (vI 1 0), (vI 0 0), (vI 0 0), (vI 3 0), (.ref 926), (.bool true), (vI 181 0), (.ref 927), .none, .none, .none, (.ref 928), (vI 1690 0), (vI 726 0), (vS "/claim/cut.py" 1691)]).toArray, ([]).toArray⟩
noncomputable def o930 (_P : Params) : Obj := fO (topSt 84) "law" (vS "law_pc0088_01" 1622) (.ref 929)
noncomputable def ktOf (P : Params) : KT := (.node (some (o0 P)) (.node none (.node (some (o3 P)) (.node none (.node none (.node none (.node none (.node none .nil (.node (some (o383 P)) .nil .nil)) .nil) (.node none .nil (.node none .nil (.node none (.node (some (o735 P)) .nil .nil) .nil)))) (.node none (.node none (.node none (.node none .nil (.node (some (o783 P)) .nil .nil)) (.node none .nil (.node (some (o911 P)) .nil .nil))) (.node none (.node (some (o335 P)) .nil (.node (some (o847 P)) .nil .nil)) .nil)) (.node (some (o111 P)) (.node none .nil (.node none (.node (some (o687 P)) .nil .nil) .nil)) (.node none (.node none (.node (some (o623 P)) .nil .nil) (.node (some (o879 P)) .nil .nil)) .nil)))) (.node none (.node none (.node none (.node none (.node none (.node (some (o519 P)) .nil .nil) .nil) .nil) (.node none (.node none .nil (.node (some (o839 P)) .nil .nil)) .nil)) (.node none (.node none .nil (.node none (.node (some (o679 P)) .nil .nil) .nil)) (.node none (.node (some (o359 P)) .nil (.node (some (o871 P)) .nil .nil)) .nil))) (.node none (.node none (.node none (.node none .nil (.node (some (o791 P)) .nil .nil)) .nil) .nil) (.node none .nil (.node (some (o247 P)) (.node (some (o375 P)) (.node (some (o631 P)) .nil .nil) (.node (some (o887 P)) .nil .nil)) .nil))))) (.node none (.node none (.node (some (o35 P)) (.node none .nil (.node none (.node (some (o323 P)) .nil .nil) (.node none (.node (some (o707 P)) .nil .nil) .nil))) (.node none .nil (.node none (.node (some (o355 P)) .nil .nil) .nil))) (.node none (.node none (.node none .nil (.node (some (o403 P)) (.node (some (o659 P)) .nil .nil) .nil)) (.node (some (o211 P)) .nil .nil)) (.node none (.node none (.node none .nil (.node (some (o819 P)) .nil .nil)) .nil) (.node none .nil (.node none (.node (some (o755 P)) .nil .nil) .nil))))) (.node none (.node (some (o43 P)) (.node none (.node (some (o139 P)) .nil .nil) .nil) (.node none (.node none (.node none .nil (.node (some (o811 P)) .nil .nil)) .nil) .nil)) (.node none (.node none .nil (.node none (.node none (.node (some (o603 P)) .nil .nil) .nil) .nil)) (.node none .nil (.node none .nil (.node none (.node (some (o763 P)) .nil .nil) .nil))))))) (.node none (.node none (.node none (.node none (.node none (.node none (.node none .nil (.node (some (o769 P)) .nil .nil)) .nil) (.node none (.node (some (o321 P)) .nil (.node (some (o833 P)) .nil .nil)) .nil)) (.node (some (o97 P)) (.node none .nil (.node (some (o417 P)) (.node (some (o673 P)) .nil .nil) (.node (some (o929 P)) .nil .nil))) (.node none (.node none (.node (some (o609 P)) .nil .nil) .nil) .nil))) (.node none .nil (.node none (.node none (.node none (.node (some (o561 P)) .nil .nil) .nil) .nil) .nil))) (.node none (.node none (.node none (.node none (.node none .nil (.node (some (o777 P)) .nil .nil)) (.node none .nil (.node (some (o905 P)) .nil .nil))) (.node none (.node none (.node (some (o585 P)) .nil .nil) .nil) .nil)) (.node (some (o105 P)) (.node none .nil (.node (some (o425 P)) .nil .nil)) .nil)) (.node none (.node none (.node none .nil (.node none (.node (some (o665 P)) .nil .nil) .nil)) .nil) (.node none (.node none (.node none .nil (.node (some (o825 P)) .nil .nil)) .nil) (.node none .nil (.node (some (o505 P)) .nil .nil)))))) (.node none (.node none (.node (some (o37 P)) (.node none (.node (some (o133 P)) .nil (.node none (.node (some (o645 P)) .nil .nil) (.node (some (o901 P)) .nil .nil))) (.node (some (o197 P)) .nil .nil)) (.node none (.node none (.node none .nil (.node (some (o805 P)) .nil .nil)) .nil) .nil)) (.node none (.node none (.node none (.node none (.node (some (o533 P)) .nil .nil) .nil) (.node none .nil (.node (some (o917 P)) .nil .nil))) (.node none (.node (some (o341 P)) .nil (.node (some (o853 P)) .nil .nil)) (.node none (.node (some (o725 P)) .nil .nil) .nil))) (.node none (.node none .nil (.node none (.node (some (o693 P)) .nil .nil) .nil)) (.node none .nil (.node (some (o501 P)) .nil .nil))))) (.node none (.node none (.node none (.node none (.node none (.node (some (o525 P)) .nil .nil) .nil) (.node (some (o397 P)) .nil .nil)) .nil) .nil) (.node none (.node none (.node none (.node none .nil (.node (some (o797 P)) .nil .nil)) (.node none .nil (.node (some (o925 P)) .nil .nil))) (.node none (.node none .nil (.node (some (o861 P)) .nil .nil)) (.node none (.node (some (o733 P)) .nil .nil) .nil))) (.node none .nil (.node none (.node none (.node (some (o637 P)) .nil .nil) (.node (some (o893 P)) .nil .nil)) .nil))))))) (.node (some (o2 P)) (.node none (.node none (.node none (.node none (.node none (.node none (.node none (.node (some (o512 P)) .nil .nil) .nil) .nil) (.node none (.node (some (o320 P)) .nil (.node (some (o832 P)) .nil .nil)) .nil)) (.node none (.node none .nil (.node none (.node (some (o672 P)) .nil .nil) .nil)) .nil)) (.node none (.node none (.node none (.node none .nil (.node (some (o784 P)) .nil .nil)) .nil) .nil) (.node (some (o112 P)) (.node none (.node none (.node (some (o560 P)) .nil .nil) .nil) .nil) (.node none (.node none (.node (some (o624 P)) .nil .nil) (.node (some (o880 P)) .nil .nil)) .nil)))) (.node none (.node none (.node none (.node none (.node none .nil (.node (some (o776 P)) .nil .nil)) .nil) (.node none (.node none (.node (some (o584 P)) .nil .nil) (.node (some (o840 P)) .nil .nil)) .nil)) (.node (some (o104 P)) (.node none .nil (.node (some (o424 P)) (.node (some (o680 P)) .nil .nil) .nil)) .nil)) (.node none .nil (.node none .nil (.node none (.node (some (o376 P)) .nil .nil) (.node (some (o504 P)) .nil .nil)))))) (.node none (.node none (.node none (.node none (.node (some (o132 P)) .nil (.node none (.node (some (o644 P)) .nil .nil) (.node (some (o900 P)) .nil .nil))) (.node (some (o196 P)) (.node (some (o324 P)) .nil .nil) (.node none (.node (some (o708 P)) .nil .nil) .nil))) (.node none (.node none (.node none .nil (.node (some (o804 P)) .nil .nil)) .nil) (.node none (.node (some (o356 P)) .nil .nil) .nil))) (.node none (.node none (.node none (.node none (.node (some (o532 P)) .nil .nil) .nil) (.node (some (o404 P)) .nil .nil)) (.node none .nil (.node none (.node (some (o724 P)) .nil .nil) .nil))) (.node none .nil (.node none .nil (.node none (.node (some (o756 P)) .nil .nil) .nil))))) (.node none (.node (some (o44 P)) (.node none (.node (some (o140 P)) .nil (.node (some (o396 P)) .nil .nil)) .nil) (.node none (.node none (.node none .nil (.node (some (o812 P)) .nil .nil)) .nil) .nil)) (.node none (.node none (.node none .nil (.node none .nil (.node (some (o924 P)) .nil .nil))) (.node none (.node none .nil (.node (some (o860 P)) .nil .nil)) (.node none (.node (some (o732 P)) .nil .nil) .nil))) .nil)))) (.node none (.node none (.node none (.node (some (o34 P)) (.node none (.node none (.node none .nil (.node (some (o770 P)) .nil .nil)) .nil) .nil) (.node (some (o98 P)) (.node none .nil (.node (some (o418 P)) .nil (.node (some (o930 P)) .nil .nil))) (.node none (.node none (.node (some (o610 P)) .nil .nil) .nil) .nil))) (.node none (.node none (.node none .nil (.node none (.node (some (o658 P)) .nil .nil) .nil)) (.node (some (o210 P)) .nil .nil)) (.node none (.node none (.node none .nil (.node (some (o818 P)) .nil .nil)) .nil) .nil))) (.node none (.node none (.node none (.node none .nil (.node none .nil (.node (some (o906 P)) .nil .nil))) .nil) .nil) (.node none (.node none (.node none .nil (.node none (.node (some (o666 P)) .nil .nil) .nil)) (.node none (.node none (.node (some (o602 P)) .nil .nil) .nil) (.node none (.node (some (o730 P)) .nil .nil) .nil))) (.node none (.node none (.node none .nil (.node (some (o826 P)) .nil .nil)) .nil) (.node none .nil (.node none (.node (some (o762 P)) .nil .nil) .nil)))))) (.node none (.node none (.node (some (o38 P)) (.node none (.node none (.node none (.node (some (o518 P)) .nil .nil) .nil) .nil) .nil) (.node none .nil (.node none (.node (some (o358 P)) .nil (.node (some (o870 P)) .nil .nil)) .nil))) (.node none (.node none (.node none (.node none .nil (.node (some (o790 P)) .nil .nil)) (.node none .nil (.node (some (o918 P)) .nil .nil))) (.node none (.node (some (o342 P)) .nil (.node (some (o854 P)) .nil .nil)) .nil)) (.node none (.node none .nil (.node none (.node (some (o694 P)) .nil .nil) .nil)) (.node none (.node none (.node (some (o630 P)) .nil .nil) (.node (some (o886 P)) .nil .nil)) (.node (some (o502 P)) .nil .nil))))) (.node none (.node none (.node none (.node none (.node none (.node (some (o526 P)) .nil .nil) .nil) (.node none .nil (.node (some (o910 P)) .nil .nil))) (.node none (.node (some (o334 P)) .nil (.node (some (o846 P)) .nil .nil)) .nil)) (.node none (.node none (.node (some (o302 P)) .nil .nil) (.node none (.node (some (o686 P)) .nil .nil) .nil)) .nil)) (.node none (.node none (.node none (.node none .nil (.node (some (o798 P)) .nil .nil)) .nil) (.node none .nil (.node none (.node (some (o734 P)) .nil .nil) .nil))) (.node none .nil (.node none (.node (some (o382 P)) (.node (some (o638 P)) .nil .nil) (.node (some (o894 P)) .nil .nil)) .nil))))))))
noncomputable def asOf : List Addr := [0, 2, 3, 34, 35, 37, 38, 43, 44, 97, 98, 104, 105, 111, 112, 132, 133, 139, 140, 196, 197, 210, 211, 247, 302, 320, 321, 323, 324, 334, 335, 341, 342, 355, 356, 358, 359, 375, 376, 382, 383, 396, 397, 403, 404, 417, 418, 424, 425, 501, 502, 504, 505, 512, 518, 519, 525, 526, 532, 533, 560, 561, 584, 585, 602, 603, 609, 610, 623, 624, 630, 631, 637, 638, 644, 645, 658, 659, 665, 666, 672, 673, 679, 680, 686, 687, 693, 694, 707, 708, 724, 725, 730, 732, 733, 734, 735, 755, 756, 762, 763, 769, 770, 776, 777, 783, 784, 790, 791, 797, 798, 804, 805, 811, 812, 818, 819, 825, 826, 832, 833, 839, 840, 846, 847, 853, 854, 860, 861, 870, 871, 879, 880, 886, 887, 893, 894, 900, 901, 905, 906, 910, 911, 917, 918, 924, 925, 929, 930]
noncomputable def objsOf (P : Params) : List Obj := [o0 P, o2 P, o3 P, o34 P, o35 P, o37 P, o38 P, o43 P, o44 P, o97 P, o98 P, o104 P, o105 P, o111 P, o112 P, o132 P, o133 P, o139 P, o140 P, o196 P, o197 P, o210 P, o211 P, o247 P, o302 P, o320 P, o321 P, o323 P, o324 P, o334 P, o335 P, o341 P, o342 P, o355 P, o356 P, o358 P, o359 P, o375 P, o376 P, o382 P, o383 P, o396 P, o397 P, o403 P, o404 P, o417 P, o418 P, o424 P, o425 P, o501 P, o502 P, o504 P, o505 P, o512 P, o518 P, o519 P, o525 P, o526 P, o532 P, o533 P, o560 P, o561 P, o584 P, o585 P, o602 P, o603 P, o609 P, o610 P, o623 P, o624 P, o630 P, o631 P, o637 P, o638 P, o644 P, o645 P, o658 P, o659 P, o665 P, o666 P, o672 P, o673 P, o679 P, o680 P, o686 P, o687 P, o693 P, o694 P, o707 P, o708 P, o724 P, o725 P, o730 P, o732 P, o733 P, o734 P, o735 P, o755 P, o756 P, o762 P, o763 P, o769 P, o770 P, o776 P, o777 P, o783 P, o784 P, o790 P, o791 P, o797 P, o798 P, o804 P, o805 P, o811 P, o812 P, o818 P, o819 P, o825 P, o826 P, o832 P, o833 P, o839 P, o840 P, o846 P, o847 P, o853 P, o854 P, o860 P, o861 P, o870 P, o871 P, o879 P, o880 P, o886 P, o887 P, o893 P, o894 P, o900 P, o901 P, o905 P, o906 P, o910 P, o911 P, o917 P, o918 P, o924 P, o925 P, o929 P, o930 P]
end
section
open PySem PySem.W PyProof.Rows
noncomputable def topRunT (tb : String → Option Builtin) (p : Program) (w : World) (n₀ : Nat) (ann : Option Value) : Nat → SharedT → Thread → Option SharedT
  | 0, _, _ => none
  | n + 1, s, t => match through t with
    | true => some s
    | false => match stepOk n₀ ann t with
      | false => none
      | true => match stepT (denote tb) p w s t with
        | some (s', t') => topRunT tb p w n₀ ann n s' t'
        | none => none
abbrev RunX := BT → Nat → Nat → SharedT → Sem Fin → Code → Pos → List Frame → Option SharedT
abbrev mkS (T : BT) (n tk : Nat) (R : SharedT) : SharedT := ⟨T, n, R.life, R.gens, R.drawn, tk, R.os⟩
noncomputable def keptF (den : Code → Sem Fin) (p : Program) (w : World) (R : SharedT) (c : Code) (h : Option Value) (g : Bool) (l : List Value) (k : Result → Sem Fin) (code : Code) (pos : Pos) (stack : List Frame) : List Value :=
  match step den p w ⟨{}, R.gens, R.drawn, 0, R.os⟩ ⟨.call c h g l k, code, pos, stack⟩ with
  | .go _ ⟨_, _, _, .ret _ _ _ _ _ _ kept :: _⟩ => kept
  | _ => []
noncomputable def ldO (T : BT) (n : Nat) (a : Addr) : Option Obj := match Nat.blt a n with
  | true => match T.get a with
    | some o => alive o
    | none => none
  | false => none
noncomputable def liO (T : BT) (n : Nat) (a : Addr) : Option (Option Obj) := match Nat.blt a n with
  | true => match T.get a with
    | some o => some (alive o)
    | none => none
  | false => some none
noncomputable def upO (n₀ : Nat) (ann : Option Value) (T : BT) (n : Nat) (a : Addr) : Option Obj := match Nat.ble n₀ a || a == mainNs || a == cStatics || ann == some (.ref a) with
  | true => ldO T n a
  | false => none
noncomputable def fLd (ih : RunX) (T : BT) (n tk : Nat) (R : SharedT) (k : Obj → Sem Fin) (code : Code) (pos : Pos) (stack : List Frame) (x : Option Obj) : Option SharedT := match x with
  | some o => ih T n tk R (k o) code pos stack
  | none => none
noncomputable def fUp (ih : RunX) (T : BT) (n tk : Nat) (R : SharedT) (a : Addr) (f : Obj → Obj) (k : Unit → Sem Fin) (code : Code) (pos : Pos) (stack : List Frame) (x : Option Obj) : Option SharedT := match x with
  | some _ => ih (T.set a f) n tk R (k ()) code pos stack
  | none => none
noncomputable def fAl (ih : RunX) (T : BT) (n tk : Nat) (R : SharedT) (o : Obj) (k : Addr → Sem Fin) (code : Code) (pos : Pos) (stack : List Frame) (x : Bool) : Option SharedT := match x with
  | true => ih (T.ins n o) (n + 1) tk R (k n) code pos stack
  | false => none
noncomputable def fLi (ih : RunX) (T : BT) (n tk : Nat) (R : SharedT) (k : Option Obj → Sem Fin) (code : Code) (pos : Pos) (stack : List Frame) (x : Option (Option Obj)) : Option SharedT := match x with
  | some o => ih T n tk R (k o) code pos stack
  | none => none
noncomputable def fEd (T : BT) (n tk : Nat) (R : SharedT) (t : Thread) : Option SharedT := match through t with
  | true => some (mkS T n tk R)
  | false => none
noncomputable def fAg (tb : String → Option Builtin) (p : Program) (w : World) (n₀ : Nat) (ann : Option Value) (ih : RunX) (T : BT) (n tk : Nat) (R : SharedT) (cur : Sem Fin) (code : Code) (pos : Pos) (stack : List Frame) : Option SharedT :=
  match stepOk n₀ ann ⟨cur, code, pos, stack⟩ with
  | false => none
  | true => match step (denote tb) p w ⟨{}, R.gens, R.drawn, 0, R.os⟩ ⟨cur, code, pos, stack⟩ with
    | .go _ ⟨cur', code', pos', stack'⟩ => ih T n tk R cur' code' pos' stack'
    | .halt _ _ => none
noncomputable def fDn (ih : RunX) (T : BT) (n tk : Nat) (R : SharedT) (f : Flow) (oth : Option SharedT) (stack : List Frame) : Option SharedT := match stack with
  | .ret k _ _ _ c p _ :: rest => ih T n tk R (k (.ok f)) c p rest
  | _ => oth
noncomputable def fRs (ih : RunX) (T : BT) (n tk : Nat) (R : SharedT) (e : Value) (stack : List Frame) : Option SharedT := match stack with
  | .ret k _ _ _ c p _ :: rest => ih T n tk R (k (.error e)) c p rest
  | _ => none
noncomputable def fPu (tb : String → Option Builtin) (p : Program) (w : World) (n₀ : Nat) (ann : Option Value) (ih : RunX) (T : BT) (n tk : Nat) (R : SharedT) (x : Fin) (code : Code) (pos : Pos) (stack : List Frame) : Option SharedT := match x with
  | .done f => fDn ih T n tk R f (fEd T n tk R ⟨.pure (.done f), code, pos, stack⟩) stack
  | .again c => fAg tb p w n₀ ann ih T n tk R (.pure (.again c)) code pos stack
noncomputable def stF (tb : String → Option Builtin) (p : Program) (w : World) (n₀ : Nat) (ann : Option Value) (ih : RunX) (T : BT) (n tk : Nat) (R : SharedT) (cur : Sem Fin) (code : Code) (pos : Pos) (stack : List Frame) : Option SharedT := match cur with
  | .rule _ k => ih T n tk R (k ()) code pos stack
  | .at q k => ih T n tk R (k ()) code q stack
  | .point _ k => ih T n tk R (k ()) code pos stack
  | .fresh k => ih T n (tk + 1) R (k tk) code pos stack
  | .ask k => ih T n tk R (k ⟨p, w.params⟩) code pos stack
  | .stack k => ih T n tk R (k ((code, pos) :: stack.map Frame.where_)) code pos stack
  | .call c h g l k => ih T n tk R (denote tb c) c pos (.ret k h g l code pos (keptF (denote tb) p w R c h g l k code pos stack) :: stack)
  | .load a _ k => fLd ih T n tk R k code pos stack (ldO T n a)
  | .update a _ f k => fUp ih T n tk R a f k code pos stack (upO n₀ ann T n a)
  | .alloc o k => fAl ih T n tk R o k code pos stack ((T.ins n o).get n).isSome
  | .loadIfAlive a k => fLi ih T n tk R k code pos stack (liO T n a)
  | .pure x => fPu tb p w n₀ ann ih T n tk R x code pos stack
  | .raise e => fRs ih T n tk R e stack
  | .handled own k => fAg tb p w n₀ ann ih T n tk R (.handled own k) code pos stack
  | _ => none
noncomputable def runF (tb : String → Option Builtin) (p : Program) (w : World) (n₀ : Nat) (ann : Option Value) (m : Nat) : RunX := @Nat.rec (fun _ => RunX) (fun _ _ _ _ _ _ _ _ => none) (fun _ ih => stF tb p w n₀ ann ih) m
section
variable {den : Code → Sem Fin} {p : Program} {w : World} {T : BT} {n tk : Nat} {R : SharedT} {a : Addr} {q : Option Value} {code : Code} {pos : Pos} {stack : List Frame}
theorem st_ld {k : Obj → Sem Fin} : stepT den p w (mkS T n tk R) ⟨.load a q k, code, pos, stack⟩ = (ldO T n a).map fun o => (mkS T n tk R, ⟨k o, code, pos, stack⟩) := by
  show (match Nat.blt a n with
    | true => match T.get a with
      | some o => match alive o with
        | some o' => some (mkS T n tk R, (⟨k o', code, pos, stack⟩ : Thread))
        | none => none
      | none => none
    | false => none) = _
  unfold ldO
  cases Nat.blt a n with
  | false => rfl
  | true => cases T.get a with
    | none => rfl
    | some o =>
      show (match alive o with
        | some o' => some (mkS T n tk R, (⟨k o', code, pos, stack⟩ : Thread))
        | none => none) = Option.map _ (alive o)
      cases alive o <;> rfl
theorem st_up {f : Obj → Obj} {k : Unit → Sem Fin} : stepT den p w (mkS T n tk R) ⟨.update a q f k, code, pos, stack⟩ = (ldO T n a).map fun _ => (mkS (T.set a f) n tk R, ⟨k (), code, pos, stack⟩) := by
  show (match Nat.blt a n with
    | true => match T.get a with
      | some o => match alive o with
        | some _ => some (mkS (T.set a f) n tk R, (⟨k (), code, pos, stack⟩ : Thread))
        | none => none
      | none => none
    | false => none) = _
  unfold ldO
  cases Nat.blt a n with
  | false => rfl
  | true => cases T.get a with
    | none => rfl
    | some o =>
      show (match alive o with
        | some _ => some (mkS (T.set a f) n tk R, (⟨k (), code, pos, stack⟩ : Thread))
        | none => none) = Option.map _ (alive o)
      cases alive o <;> rfl
theorem st_al {o : Obj} {k : Addr → Sem Fin} (e : ((T.ins n o).get n).isSome = true) : stepT den p w (mkS T n tk R) ⟨.alloc o k, code, pos, stack⟩ = some (mkS (T.ins n o) (n + 1) tk R, ⟨k n, code, pos, stack⟩) := by
  show (match ((T.ins n o).get n).isSome with
    | true => some (mkS (T.ins n o) (n + 1) tk R, (⟨k n, code, pos, stack⟩ : Thread))
    | false => none) = _
  rw [e]
theorem st_li {k : Option Obj → Sem Fin} : stepT den p w (mkS T n tk R) ⟨.loadIfAlive a k, code, pos, stack⟩ = (liO T n a).map fun o => (mkS T n tk R, ⟨k o, code, pos, stack⟩) := by
  show (match Nat.blt a n with
    | true => match T.get a with
      | some o => some (mkS T n tk R, (⟨k (alive o), code, pos, stack⟩ : Thread))
      | none => none
    | false => some (mkS T n tk R, ⟨k none, code, pos, stack⟩)) = _
  unfold liO
  cases Nat.blt a n with
  | false => rfl
  | true => cases T.get a <;> rfl
end
section
variable {tb : String → Option Builtin} {p : Program} {w : World} {n₀ : Nat} {ann : Option Value} {m : Nat}
theorem top_go {s s' : SharedT} {t t' : Thread} (h1 : through t = false) (h2 : stepOk n₀ ann t = true) (h3 : stepT (denote tb) p w s t = some (s', t')) : topRunT tb p w n₀ ann (m + 1) s t = topRunT tb p w n₀ ann m s' t' := by
  conv => lhs; unfold topRunT
  rw [h1, h2, h3]
theorem fEd_spec {T : BT} {n tk : Nat} {R : SharedT} {t : Thread} {s' : SharedT} (h : fEd T n tk R t = some s') : topRunT tb p w n₀ ann (m + 1) (mkS T n tk R) t = some s' := by
  unfold fEd at h
  unfold topRunT
  cases h1 : through t with
  | true => rw [h1] at h; exact h
  | false => rw [h1] at h; cases h
theorem stF_spec {ih : RunX} (H : ∀ T n tk R cur code pos stack s', ih T n tk R cur code pos stack = some s' → topRunT tb p w n₀ ann m (mkS T n tk R) ⟨cur, code, pos, stack⟩ = some s')
    {T : BT} {n tk : Nat} {R : SharedT} {cur : Sem Fin} {code : Code} {pos : Pos} {stack : List Frame} {s' : SharedT} (h : stF tb p w n₀ ann ih T n tk R cur code pos stack = some s') : topRunT tb p w n₀ ann (m + 1) (mkS T n tk R) ⟨cur, code, pos, stack⟩ = some s' := by
  cases cur with
  | rule q k => exact (top_go (by exact Bool.and_false _) (by rfl) (by rfl)).trans (H _ _ _ _ _ _ _ _ _ h)
  | «at» q k => exact (top_go (by exact Bool.and_false _) (by rfl) (by rfl)).trans (H _ _ _ _ _ _ _ _ _ h)
  | point q k => exact (top_go (by exact Bool.and_false _) (by rfl) (by rfl)).trans (H _ _ _ _ _ _ _ _ _ h)
  | fresh k => exact (top_go (by exact Bool.and_false _) (by rfl) (by rfl)).trans (H _ _ _ _ _ _ _ _ _ h)
  | ask k => exact (top_go (by exact Bool.and_false _) (by rfl) (by rfl)).trans (H _ _ _ _ _ _ _ _ _ h)
  | stack k => exact (top_go (by exact Bool.and_false _) (by rfl) (by rfl)).trans (H _ _ _ _ _ _ _ _ _ h)
  | call c hd g l k => exact (top_go (by exact Bool.and_false _) (by rfl) (by rfl)).trans (H _ _ _ _ _ _ _ _ _ h)
  | load a q k =>
    replace h : fLd ih T n tk R k code pos stack (ldO T n a) = some s' := h
    cases e : ldO T n a with
    | none => rw [e] at h; cases h
    | some o => rw [e] at h; exact (top_go (by exact Bool.and_false _) (by rfl) (st_ld.trans (by rw [e]; rfl))).trans (H _ _ _ _ _ _ _ _ _ h)
  | update a q f k =>
    replace h : fUp ih T n tk R a f k code pos stack (upO n₀ ann T n a) = some s' := h
    unfold upO at h
    cases ok : (Nat.ble n₀ a || a == mainNs || a == cStatics || ann == some (.ref a)) with
    | false => rw [ok] at h; cases h
    | true =>
      rw [ok] at h
      replace h : fUp ih T n tk R a f k code pos stack (ldO T n a) = some s' := h
      cases e : ldO T n a with
      | none => rw [e] at h; cases h
      | some o => rw [e] at h; exact (top_go (by exact Bool.and_false _) (by exact ok) (st_up.trans (by rw [e]; rfl))).trans (H _ _ _ _ _ _ _ _ _ h)
  | alloc o k =>
    replace h : fAl ih T n tk R o k code pos stack ((T.ins n o).get n).isSome = some s' := h
    cases e : ((T.ins n o).get n).isSome with
    | false => rw [e] at h; cases h
    | true => rw [e] at h; exact (top_go (by exact Bool.and_false _) (by rfl) (st_al e)).trans (H _ _ _ _ _ _ _ _ _ h)
  | loadIfAlive a k =>
    replace h : fLi ih T n tk R k code pos stack (liO T n a) = some s' := h
    cases e : liO T n a with
    | none => rw [e] at h; cases h
    | some o => rw [e] at h; exact (top_go (by exact Bool.and_false _) (by rfl) (st_li.trans (by rw [e]; rfl))).trans (H _ _ _ _ _ _ _ _ _ h)
  | pure x =>
    cases x with
    | again c =>
      replace h : fAg tb p w n₀ ann ih T n tk R (.pure (.again c)) code pos stack = some s' := h
      unfold fAg at h
      cases e : stepOk n₀ ann ⟨.pure (.again c), code, pos, stack⟩ with
      | false => rw [e] at h; cases h
      | true =>
        rw [e] at h
        exact (top_go (by exact Bool.and_false _) e (by rfl)).trans (H _ _ _ _ _ _ _ _ _ h)
    | done f =>
      cases stack with
      | nil => exact fEd_spec h
      | cons f r =>
        cases f with
        | gen => exact fEd_spec h
        | ret k a1 a2 a3 c p a4 => exact (top_go (by rfl) (by rfl) (by rfl)).trans (H _ _ _ _ _ _ _ _ _ h)
  | raise e =>
    cases stack with
    | nil => exact nomatch (show (none : Option SharedT) = some s' from h)
    | cons f r =>
      cases f with
      | gen => exact nomatch (show (none : Option SharedT) = some s' from h)
      | ret k a1 a2 a3 c p a4 => exact (top_go (by rfl) (by rfl) (by rfl)).trans (H _ _ _ _ _ _ _ _ _ h)
  | handled own k =>
    replace h : fAg tb p w n₀ ann ih T n tk R (.handled own k) code pos stack = some s' := h
    unfold fAg at h
    cases e : stepOk n₀ ann ⟨.handled own k, code, pos, stack⟩ with
    | false => rw [e] at h; cases h
    | true =>
      rw [e] at h
      exact (top_go (by exact Bool.and_false _) e (by rfl)).trans (H _ _ _ _ _ _ _ _ _ h)
  | _ => exact nomatch (show (none : Option SharedT) = some s' from h)
theorem runF_spec : ∀ {m : Nat} {T : BT} {n tk : Nat} {R : SharedT} {cur : Sem Fin} {code : Code} {pos : Pos} {stack : List Frame} {s' : SharedT}, runF tb p w n₀ ann m T n tk R cur code pos stack = some s' → topRunT tb p w n₀ ann m (mkS T n tk R) ⟨cur, code, pos, stack⟩ = some s'
  | 0, _, _, _, _, _, _, _, _, _, h => nomatch h
  | m + 1, _, _, _, _, _, _, _, _, _, h => stF_spec (fun _ _ _ _ _ _ _ _ _ h => runF_spec h) h
end
theorem topRunT_spec {tb : String → Option Builtin} {p : Program} {w : World} {n₀ : Nat} {ann : Option Value} : ∀ {n : Nat} {s s' : SharedT} {t : Thread},
    topRunT tb p w n₀ ann n s t = some s' → topRun tb p w n₀ ann n s.abs t = some s'.abs
  | 0, _, _, _, h => by cases h
  | n + 1, s, s', t, h => by
    unfold topRunT at h
    unfold topRun
    cases he : through t with
    | true => rw [he] at h; cases h; rfl
    | false =>
      rw [he] at h
      cases hk : stepOk n₀ ann t with
      | false => rw [hk] at h; cases h
      | true =>
        rw [hk] at h
        cases hs : stepT (denote tb) p w s t with
        | none => rw [hs] at h; cases h
        | some r => obtain ⟨s₂, t₂⟩ := r; rw [hs] at h; rw [stepT_spec hs]; exact topRunT_spec h

noncomputable def impT (tb : String → Option Builtin) (p : Program) (w : World) : Nat → SharedT → Thread → Option SharedT
  | 0, _, _ => none
  | n + 1, s, t => match t.atExitBegin with
    | some [] => some s
    | some (_ :: _) => none
    | none => match stepT (denote tb) p w s t with
      | some (s', t') => impT tb p w n s' t'
      | none => none
theorem impT_spec {tb : String → Option Builtin} {p : Program} {w : World} : ∀ {n : Nat} {s s' : SharedT} {t : Thread}, impT tb p w n s t = some s' → importEnds tb p w n s.abs t = some s'.abs
  | 0, _, _, _, h => by cases h
  | n + 1, s, s', t, h => by
    unfold impT at h
    unfold importEnds
    cases he : t.atExitBegin with
    | some l =>
      rw [he] at h
      cases l with
      | nil => cases h; rfl
      | cons _ _ => cases h
    | none =>
      rw [he] at h
      cases hs : stepT (denote tb) p w s t with
      | none => rw [hs] at h; cases h
      | some r => obtain ⟨s₂, t₂⟩ := r; rw [hs] at h; rw [stepT_spec hs]; exact impT_spec h
noncomputable def annOf (H : Heap) : Option Value := H.nsMap mainGlobals "__annotations__"
noncomputable def Yf (s : Shared) : List (Option Obj) × Nat × Nat := (asOf.map s.heap.get?, s.heap.objs.size, s.toks)
noncomputable def Ya (w : World) : List (Option Obj) × Nat × Nat := ((objsOf w.params).map some, 931, 1693)
noncomputable def lkT (s : SharedT) (a : Addr) : Option Obj := match Nat.blt a s.n with
  | true => (s.tree.get a).bind alive
  | false => none
theorem lkT_get {s : SharedT} {a : Addr} {o : Obj} (h : lkT s a = some o) : s.abs.heap.get? a = some o := by
  unfold lkT at h
  cases hb : Nat.blt a s.n with
  | false => rw [hb] at h; cases h
  | true =>
    rw [hb] at h
    obtain ⟨o', h1, h2⟩ := Option.bind_eq_some_iff.mp h
    exact (abs_get (Nat.le_of_ble_eq_true hb) h1).trans h2
theorem lkT_map {s : SharedT} : ∀ {l : List Addr} {v : List Obj}, l.map (lkT s) = v.map some → l.map s.abs.heap.get? = v.map some
  | [], [], _ => rfl
  | [], _ :: _, h => nomatch h
  | _ :: _, [], h => nomatch h
  | _ :: _, _ :: _, h => by
    obtain ⟨h1, h2⟩ := List.cons.inj h
    rw [List.map_cons, List.map_cons, lkT_get h1, lkT_map h2]
noncomputable def YfT (s : SharedT) : List (Option Obj) × Nat × Nat := (asOf.map (lkT s), s.n, s.toks)
theorem YfT_abs {s : SharedT} {w : World} (h : YfT s = Ya w) : Yf s.abs = Ya w := by
  obtain ⟨h1, h2⟩ := Prod.mk.inj h
  obtain ⟨h2, h3⟩ := Prod.mk.inj h2
  refine Prod.ext (lkT_map h1) (Prod.ext ?_ h3)
  exact (absHeap_size _ _ _).trans h2
noncomputable def look (p q : Program) (loose : List Str) (H : Heap) (t : SharedT) (s : Shared) :=
  ((staticsOk (importedModules p.main.body) H s.heap && namesBound p s.heap && gensDone s && laidKept H s.heap), openSeen q loose (importedModules p.main.body) (fun s => recOk [] s) true s, YfT t)
noncomputable def start0 (os : OsState) : SharedT := ⟨.nil, 0, {}, #[], {}, 1, os⟩
noncomputable def runB (tb : String → Option Builtin) (p : Program) (w : World) (ann : Option Value) (s : SharedT) (t : Thread) : Option SharedT := match Nat.beq s.n 11 && Nat.beq s.toks 181 with
  | true => runF tb p w 11 ann 9000 s.tree 11 181 s t.cur t.code t.pos t.stack
  | false => none
theorem runB_spec {tb : String → Option Builtin} {p : Program} {w : World} {ann : Option Value} {s s' : SharedT} {t : Thread} (h : runB tb p w ann s t = some s') : topRunT tb p w 11 ann 9000 s t = some s' := by
  unfold runB at h
  cases e : (Nat.beq s.n 11 && Nat.beq s.toks 181) with
  | false => rw [e] at h; cases h
  | true =>
    rw [e] at h
    obtain ⟨e1, e2⟩ := Bool.and_eq_true_iff.mp e
    have r := runF_spec h
    rw [← Nat.eq_of_beq_eq_true e1, ← Nat.eq_of_beq_eq_true e2] at r
    rw [← Nat.eq_of_beq_eq_true e1]
    exact r
noncomputable def lhs (p q : Program) (loose : List Str) (w : World) := (impT treeTable (opening p) w 9000 (start0 (start (opening p)).1.os) (start (opening p)).2).bind fun s₁ =>
  (runB treeTable p w (annOf s₁.abs.heap) s₁ (topStub p)).map fun s => ((Nat.beq s₁.n 11 && (s₁.abs.heap.isNs mainGlobals && s₁.gens.size == 0)), look p q loose s₁.abs.heap s s.abs)
noncomputable def q : Program := view PySem.Challenge.pw_pc0088_01 [84]
noncomputable def loose : List Str := (["_wall", "Node", "BLANKS", "LINE_ENDS", "LETTERS", "PARTS", "is_among", "is_white", "is_line_end", "is_digit", "is_octal_digit", "hex_value", "is_id_start", "is_id_part", "SIGN_BIT", "FRACTION_BITS", "HIDDEN_BIT", "EXPONENT_MASK", "EXPONENT_SHIFT", "LEAST_POWER", "ZERO", "INF", "width", "pack", "signed", "quotient", "round_ratio", "assembled", "from_int", "SINGLE", "code_at", "hex_at", "line_end_size", "octal_escape", "read_escape", "FARTHEST", "figure_of", "worth", "from_decimal", "KEYWORDS", "PUNCTS", "PUNCT_TABLE", "Token", "is_keyword", "punct_at", "SyntaxFail", "Lexer", "STRICT_WORDS", "RESTRICTED", "TARGETS", "name_fault", "binding_fault", "target_fault", "delete_fault", "octal_fault", "Jumps", "MOST_NESTED", "TokenTaker", "PRIORITY", "ASSIGNING", "UNARY_SIGNS", "UNARY_WORDS", "STEPS", "ExprParser", "_law_signs", "_law_pick", "_law_name", "_law_two", "_law_operands", "_law_rows", "_law_line", "_law_lines_right"] : List String).map Str.ofString
set_option maxHeartbeats 0 in
lay_quick Mine.lhs
abbrev pw : Program := PySem.Challenge.pw_pc0088_01
abbrev rowI : String := "comprehension-iter-twice"
abbrev rowG : String := "special-get-raises"
abbrev lhsT := PySem.W.Fast.tw14720033549999066060
theorem eqFF (w : World) : lhsT pw q loose ((w.withFollow rowG false).withFollow rowI false) = some (true, true, openGood q loose, Ya w) := by rfl'
theorem eqFT (w : World) : lhsT pw q loose ((w.withFollow rowG false).withFollow rowI true) = some (true, true, openGood q loose, Ya w) := by rfl'
theorem eqTF (w : World) : lhsT pw q loose ((w.withFollow rowG true).withFollow rowI false) = some (true, true, openGood q loose, Ya w) := by rfl'
theorem eqTT (w : World) : lhsT pw q loose ((w.withFollow rowG true).withFollow rowI true) = some (true, true, openGood q loose, Ya w) := by rfl'
theorem lhs_all (w : World) : lhs pw q loose w = some (true, true, openGood q loose, Ya w) := by
  have te : lhs = lhsT := PySem.W.Fast.te14720033549999066060
  have h : ∀ b2 b1 : Bool, lhs pw q loose ((w.withFollow rowG b2).withFollow rowI b1) = some (true, true, openGood q loose, Ya w) := by
    intro b2 b1
    rw [te]
    cases b2 <;> cases b1
    · exact eqFF w
    · exact eqFT w
    · exact eqTF w
    · exact eqTT w
  have h1 := h (w.params.followText rowG)
  rw [World.withFollow_self] at h1
  have h2 := h1 (w.params.followText rowI)
  rw [World.withFollow_self] at h2
  exact h2
theorem fence_plain (s : Shared) : fenceModules? pw s = some s := by rfl'
theorem start0_abs (P : Program) : (start0 (start P).1.os).abs = (start P).1 := by
  unfold start0 SharedT.abs
  rfl
theorem left_of {p q : Program} {loose : List Str} (all : ∀ w, lhs p q loose w = some (true, true, openGood q loose, Ya w)) (fence : ∀ s, fenceModules? p s = some s) : LeftO p q loose (fun s => recOk [] s) Yf Ya 9000 := fun w => by
  obtain ⟨s₁, h1, h2⟩ := Option.bind_eq_some_iff.mp (all w)
  obtain ⟨s, hs, hl⟩ := Option.map_eq_some_iff.mp h2
  have run0 : importEnds treeTable (opening p) w 9000 (start (opening p)).1 (start (opening p)).2 = some s₁.abs := by
    rw [← start0_abs]
    exact impT_spec h1
  have hs := runB_spec hs
  have run := topRunT_spec hs
  obtain ⟨l0, l1, l2, l3⟩ : _ ∧ _ ∧ _ ∧ _ := by simpa only [look, Prod.mk.injEq] using hl
  obtain ⟨n0, l0⟩ := Bool.and_eq_true_iff.mp l0
  have n0 : s₁.n = 11 := Nat.eq_of_beq_eq_true n0
  have hsz : s₁.abs.heap.objs.size = 11 := (absHeap_size _ _ _).trans n0
  have t : topFrom treeTable p w 9000 s₁.abs = some s.abs := by
    unfold topFrom
    rw [show (s₁.abs.heap.isNs mainGlobals && s₁.abs.gens.size == 0) = true from l0, hsz]
    show (topRun treeTable p w 11 (annOf s₁.abs.heap) 9000 s₁.abs (topStub p)).bind _ = _
    rw [run]
    show (match staticsOk (importedModules p.main.body) s₁.abs.heap s.abs.heap && namesBound p s.abs.heap && gensDone s.abs && laidKept s₁.abs.heap s.abs.heap with | true => _ | false => _) = _
    rw [l1]
  unfold openEnds fencedOpening
  rw [run0]
  show (((fenceModules? p s₁.abs)).bind _).map _ = _
  rw [fence]
  show (topFrom treeTable p w 9000 s₁.abs).map _ = _
  rw [t]
  exact congrArg some (Prod.ext l2 (YfT_abs l3))
theorem left : LeftO pw q loose (fun s => recOk [] s) Yf Ya 9000 := left_of lhs_all fence_plain
section
theorem said_gen (l : OpenLaw) : l.wellSaid = PySem.W.Fast.tw9446332074065402090 l := congrFun PySem.W.Fast.te9446332074065402090 l
abbrev mainOf : List Stmt := PySem.Challenge.rw_pc0088_01.row.prog.main.body
theorem said_nr : PySem.W.Fast.tw8377067652309620493 PySem.Challenge.rw_pc0088_01.row.prog = true := by rfl'
theorem said_road : PySem.W.Fast.tw8326940854005059898 { strict := !PySem.W.R.allR (PySem.W.Fast.tw5923862056798008813 mainOf) (PySem.W.Fast.tw3471404346716756564 PySem.W.Fast.tw17691160309236699985), foot := none, bare := PySem.W.R.filterR (PySem.W.Fast.tw13343964577679436407 PySem.Challenge.rw_pc0088_01.row.prog mainOf) [⟨⟨[118, 97, 114, 115]⟩⟩, ⟨⟨[100, 105, 114]⟩⟩, ⟨⟨[108, 111, 99, 97, 108, 115]⟩⟩] } mainOf = true := by rfl'
theorem said_look : PySem.W.Fast.tw12908688711261696721 PySem.Challenge.rw_pc0088_01.row.prog = true := by
  delta PySem.W.Fast.tw12908688711261696721
  repeat' (with_reducible refine look_both ?_ ?_)
  · rfl'
  · rfl'
  · exact said_nr
  · rfl'
  · exact said_road
  · rfl'
theorem said1 : PySem.Challenge.rw_pc0088_01.wellSaid = true := (said_gen _).trans (by
  delta PySem.W.Fast.tw9446332074065402090
  repeat' (with_reducible refine look_both ?_ ?_)
  · delta PySem.W.Fast.tw17960256430627541270
    repeat' (with_reducible refine look_both ?_ ?_)
    · delta PySem.W.Fast.tw2436336058641802641
      repeat' (with_reducible refine look_both ?_ ?_)
      · exact said_look
      all_goals rfl'
    all_goals rfl'
  all_goals rfl')
theorem lawD_some : (defOf q (Str.ofString "law")).isSome = true := by rfl'
noncomputable def lawD : DefRec × List (Str × PySem.Expr) := (defOf q (Str.ofString "law")).get lawD_some
theorem lawD_is : defOf q (Str.ofString "law") = some (lawD.1, lawD.2) := (Option.some_get lawD_some).symm
abbrev rowOf : OpenRow := PySem.Challenge.rw_pc0088_01.row
theorem ok1 : rowOf.prog.theDef rowOf.name = some (lawD.1.params, lawD.1.body, lawD.1.scope) := by rfl'
theorem ok2 : kwWritten? lawD.1.params.kwonlyargs lawD.1.params.kw_defaults = some lawD.2 := by rfl'
theorem okh3 : (chainsOk q && opensWell rowOf.prog && (frees rowOf.toRowW && rowOf.within.isEmpty)) = true := by rfl'
theorem ok4 : rowOf.prog.bare := ⟨rfl, rfl, rfl, rfl, rfl, by decide +kernel⟩
theorem ok5 : rowOf.toRowW.promised := by w_witness2
end
theorem head_of {l : OpenLaw} {q : Program} {loose : List Str} {d : DefRec} {kwd : List (Str × PySem.Expr)} (said : l.wellSaid = true) (left : LeftO l.row.prog q loose (fun s => recOk [] s) Yf Ya 9000)
    (hdef : defOf q l.row.name = some (d, kwd)) (hp : l.row.prog.theDef l.row.name = some (d.params, d.body, d.scope)) (hk : kwWritten? d.params.kwonlyargs d.params.kw_defaults = some kwd)
    (hrec : l.row.records = []) (ok : (chainsOk q && opensWell l.row.prog && (frees l.row.toRowW && l.row.within.isEmpty)) = true) (hb : l.row.prog.bare) (hw : l.row.toRowW.promised)
    (call : WalkX q loose (fun _ _ => True) Yf Ya l.row.toRowW d kwd fun f vs => PySem.call f vs) : l.Holds :=
  holds_law said fun k1 => holds_openX (q := q) (loose := loose) (Xt := fun s => recOk [] s) (XP := fun _ _ => True) (Yf := Yf) (Ya := Ya) (N := 9000) left (fun _ _ => trivial) (fun _ _ _ _ _ => trivial) hdef hp hk (hrec ▸ fun s e => recFacts_of e) (by rw [hrec]; cases l.row.writes <;> rfl) k1 ok hb hw call
theorem head (call : WalkX q loose (fun _ _ => True) Yf Ya rowOf.toRowW lawD.1 lawD.2 fun f vs => PySem.call f vs) : PySem.Challenge.rw_pc0088_01.Holds :=
  head_of (l := PySem.Challenge.rw_pc0088_01) (q := q) (loose := loose) said1 left lawD_is ok1 ok2 rfl okh3 ok4 ok5 call
end
section
open PySem PySem.W PySem.W.X PyProof.Rows PySem.Calls PySem.Spec
structure Slot where
  a : Addr
  o : Obj
  u : Bool
structure Fact where
  lo : Nat
  hi : Nat
  P : Heap → Prop
noncomputable def Fact.Stable (F : Fact) : Prop := ∀ h h' : Heap, (∀ b o, F.lo ≤ b → b < F.hi → h.get? b = some o → h'.get? b = some o) → F.P h → F.P h'
structure St where
  sl : List Slot
  sz : Nat
  tk : Nat
  fs : List Fact
inductive Side where
  | ad (a : Nat)
  | cd (c : Code)
  | ob (o : Obj)
  | tr (t : Sem Fin)
  | fc (F : Fact)
  | al (l : List Addr)
  | sk (f : Pos → List (Code × Pos) → Sem Fin)
structure CSpec where
  code : Code → Code
  pre : List (Nat × Addr × (Obj → Obj))
  res : Result
  upd : List (Nat × Addr × (Obj → Obj))
  add : List (Addr × Obj)
  sz : Nat
  tk : Nat
  fs : List Fact
  dl : Nat
  ul : Nat
  pu : Bool
  au : Bool
  pf : List (Nat × Fact)
  fl : Option (List Addr)
  zq : Option Addr
inductive Res where
  | done (r : Result) (st : St)
  | stop (c : Code) (κ : Kont) (t : Sem Fin) (st : St)
  | fail (n : Nat)
structure Par where
  prog : Program
  w : World
  kt : KT
  D : Nat
  U : Nat
  fr : Bool

noncomputable def slAt (l : List Slot) : Nat → Option Slot :=
  @List.rec Slot (fun _ => Nat → Option Slot) (fun _ => none) (fun s _ ih k => @Nat.rec (fun _ => Option Slot) (some s) (fun k _ => ih k) k) l
noncomputable def slMap (f : Obj → Obj) (l : List Slot) : Nat → List Slot :=
  @List.rec Slot (fun _ => Nat → List Slot) (fun _ => []) (fun s l ih k => @Nat.rec (fun _ => List Slot) (⟨s.a, f s.o, s.u⟩ :: l) (fun k _ => s :: ih k) k) l
theorem slAt_mem : ∀ {l : List Slot} {k : Nat} {s : Slot}, slAt l k = some s → s ∈ l
  | [], _, _, h => nomatch h
  | x :: l, 0, s, h => by have : x = s := Option.some.inj h; subst this; exact .head _
  | x :: l, k + 1, s, h => .tail _ (slAt_mem (l := l) (k := k) h)
theorem slMap_map (f : Obj → Obj) : ∀ (l : List Slot) (k : Nat), (slMap f l k).map (·.a) = l.map (·.a)
  | [], _ => rfl
  | x :: l, 0 => rfl
  | x :: l, k + 1 => by show x.a :: (slMap f l k).map (·.a) = _; rw [slMap_map f l k]; rfl
theorem slMap_mem {f : Obj → Obj} : ∀ {l : List Slot} {k : Nat} {s x : Slot}, (l.map (·.a)).Nodup → slAt l k = some s → x ∈ slMap f l k → x = ⟨s.a, f s.o, s.u⟩ ∨ (x ∈ l ∧ x.a ≠ s.a)
  | [], _, _, _, _, h, _ => nomatch h
  | y :: l, 0, s, x, nd, h, hx => by
    have : y = s := Option.some.inj h
    subst this
    have nd' := List.nodup_cons.mp nd
    rcases List.mem_cons.mp (show x ∈ (⟨y.a, f y.o, y.u⟩ : Slot) :: l from hx) with rfl | hx
    · exact .inl rfl
    · exact .inr ⟨.tail _ hx, fun e => nd'.1 (List.mem_map.mpr ⟨x, hx, e⟩)⟩
  | y :: l, k + 1, s, x, nd, h, hx => by
    have nd' := List.nodup_cons.mp nd
    have hs : slAt l k = some s := h
    rcases List.mem_cons.mp (show x ∈ y :: slMap f l k from hx) with rfl | hx
    · exact .inr ⟨.head _, fun e => nd'.1 (List.mem_map.mpr ⟨s, slAt_mem hs, e.symm⟩)⟩
    · rcases slMap_mem nd'.2 hs hx with e | ⟨a, b⟩
      · exact .inl e
      · exact .inr ⟨.tail _ a, b⟩
theorem slMap_u {f : Obj → Obj} : ∀ {l : List Slot} {k : Nat} {x : Slot}, x ∈ slMap f l k → ∃ y ∈ l, y.a = x.a ∧ y.u = x.u
  | [], _, _, h => nomatch h
  | y :: l, 0, x, h => by
    rcases List.mem_cons.mp (show x ∈ (⟨y.a, f y.o, y.u⟩ : Slot) :: l from h) with rfl | h
    · exact ⟨y, .head _, rfl, rfl⟩
    · exact ⟨x, .tail _ h, rfl, rfl⟩
  | y :: l, k + 1, x, h => by
    rcases List.mem_cons.mp (show x ∈ y :: slMap f l k from h) with rfl | h
    · exact ⟨x, .head _, rfl, rfl⟩
    · obtain ⟨z, hz, e⟩ := slMap_u h; exact ⟨z, .tail _ hz, e⟩

noncomputable def hdOf : Kont → Option Value
  | .ret _ hd _ κ => hd.or (hdOf κ)
  | _ => none
noncomputable def depOf : Kont → Nat
  | .ret c _ _ κ => c.weight + depOf κ
  | _ => 0
noncomputable def uniOf : Kont → Nat
  | .ret c _ _ κ => c.cUnits + uniOf κ
  | _ => 0

noncomputable def isMod (k : ScopeKind) : Bool := match k with
  | .module => true
  | _ => false
noncomputable def envAds (l : List Env) : Option (List Addr) :=
  @List.rec Env (fun _ => Option (List Addr)) (some []) (fun e _ ih => match e.frame with
    | none => none
    | some L => match isMod e.scope.kind with
      | true => none
      | false => match ih with
        | none => none
        | some l => some (L :: l)) l
noncomputable def catA (l : List Addr) (m : List Addr) : List Addr :=
  @List.rec Addr (fun _ => List Addr) m (fun p _ ih => p :: ih) l
noncomputable def catO (a b : Option (List Addr)) : Option (List Addr) := match a with
  | none => none
  | some l => match b with
    | none => none
    | some m => some (catA l m)
noncomputable def frAds : Kont → Option (List Addr)
  | .base => some []
  | .ret c _ _ κ => catO (envAds c.envs) (frAds κ)
  | _ => none

abbrev Obs := List (Side × Side)
abbrev GoTy := Code → Kont → Sem Fin → Nat → List CSpec → St → Obs → Obs × Res
abbrev Tail := Nat → List CSpec → St → Obs → Obs × Res
noncomputable def bad (n : Nat) : Tail := fun _ _ _ ob => (ob, .fail n)
noncomputable def popS (ih : GoTy) (r : Result) (κ : Kont) : Tail := match κ with
  | .base => fun _ _ st ob => (ob, .done r st)
  | .ret c _ k κ => ih c κ (k r)
  | .gen .. => bad 21
  | .genS .. => bad 21

noncomputable def preObs (sl : List Slot) (ob : Obs) (l : List (Nat × Addr × (Obj → Obj))) : Option Obs :=
  @List.rec (Nat × Addr × (Obj → Obj)) (fun _ => Option Obs) (some ob) (fun p _ ih => match ih with
    | none => none
    | some r => match slAt sl p.1 with
      | some s => some ((.ad s.a, .ad p.2.1) :: (.ob s.o, .ob (p.2.2 s.o)) :: r)
      | none => none) l
noncomputable def updObs (sl : List Slot) (ob : Obs) (l : List (Nat × Addr × (Obj → Obj))) : Option Obs :=
  @List.rec (Nat × Addr × (Obj → Obj)) (fun _ => Option Obs) (some ob) (fun p _ ih => match ih with
    | none => none
    | some r => match slAt sl p.1 with
      | some s => match s.u with
        | true => some ((.ad s.a, .ad p.2.1) :: r)
        | false => none
      | none => none) l
noncomputable def flObs (b : Bool) (frs : Option (List Addr)) (ob : Obs) (fl : Option (List Addr)) : Option Obs := match fl with
  | none => some ob
  | some l => match b with
    | false => none
    | true => match frs with
      | none => none
      | some l' => some ((.al l', .al l) :: ob)
noncomputable def zqObs (sz : Nat) (ob : Obs) (zq : Option Addr) : Obs := match zq with
  | none => ob
  | some a => (.ad sz, .ad (Nat.succ a)) :: ob
noncomputable def fsAt (l : List Fact) : Nat → Option Fact :=
  @List.rec Fact (fun _ => Nat → Option Fact) (fun _ => none) (fun s _ ih k => @Nat.rec (fun _ => Option Fact) (some s) (fun k _ => ih k) k) l
noncomputable def pfObs (fs : List Fact) (ob : Obs) (l : List (Nat × Fact)) : Option Obs :=
  @List.rec (Nat × Fact) (fun _ => Option Obs) (some ob) (fun p _ ih => match ih with
    | none => none
    | some r => match fsAt fs p.1 with
      | some F => some ((.fc F, .fc p.2) :: r)
      | none => none) l
noncomputable def updSl (sl : List Slot) (l : List (Nat × Addr × (Obj → Obj))) : List Slot :=
  @List.rec (Nat × Addr × (Obj → Obj)) (fun _ => List Slot) sl (fun p _ ih => slMap p.2.2 ih p.1) l
noncomputable def szOf (b : Bool) (x y : Nat) : Nat := match b with
  | true => x
  | false => y
noncomputable def addSl (b : Bool) (sl : List Slot) (l : List (Addr × Obj)) : List Slot :=
  @List.rec (Addr × Obj) (fun _ => List Slot) sl (fun p _ ih => ⟨p.1, p.2, b⟩ :: ih) l
noncomputable def catF (fs : List Fact) (l : List Fact) : List Fact :=
  @List.rec Fact (fun _ => List Fact) fs (fun p _ ih => p :: ih) l

noncomputable def ctrS (P : Par) (dep uni : Nat) (hd : Option Value) (frs : Option (List Addr)) (c' : Code) (kont : Result → Tail) : Tail := fun ks ls st ob => match ls with
  | [] => bad 15 ks ls st ob
  | s :: ls => match hd with
    | some _ => bad 16 ks ls st ob
    | none => match Nat.ble (s.dl + dep) P.D with
      | false => bad 17 ks ls st ob
      | true => match Nat.ble (s.ul + uni) P.U with
        | false => bad 18 ks ls st ob
        | true => match preObs st.sl ob s.pre with
          | none => bad 19 ks ls st ob
          | some ob1 => match updObs st.sl ob1 s.upd with
            | none => bad 20 ks ls st ob
            | some ob2 => match pfObs st.fs ob2 s.pf with
              | none => bad 22 ks ls st ob
              | some ob3 => match flObs P.fr frs ob3 s.fl with
                | none => bad 23 ks ls st ob
                | some ob4 => kont s.res ks ls ⟨addSl s.au (updSl st.sl s.upd) s.add, szOf s.pu st.sz s.sz, s.tk, catF st.fs s.fs⟩ ((.cd c', .cd (s.code c')) :: zqObs st.sz ob4 s.zq)
noncomputable def isLoop : Code → Bool
  | .whileLoop .. => true
  | .forLoop .. => true
  | _ => false
noncomputable def againOf (t : Sem Fin) : Option Code := match t with
  | .pure fin => match fin with
    | .again c' => some c'
    | .done _ => none
  | _ => none
noncomputable def isHead (pt : Option Value) : Bool := match pt with
  | some v => match v with
    | .bool _ => true
    | _ => false
  | none => false
noncomputable def loadOf (P : Par) (t : Sem Fin) : Option Code := match t with
  | .load a pt k2 => match isHead pt with
    | true => none
    | false => match P.kt.get a with
      | some o => againOf (k2 o)
      | none => none
  | _ => none
noncomputable def stackNext (P : Par) (c : Code) (κ : Kont) (k : List (Code × Pos) → Sem Fin) : Option Code := match Nat.blt (c.weight + depOf κ) P.D with
  | true => loadOf P (k [])
  | false => none
noncomputable def pos0 : Pos := ⟨0, 0, 0, 0⟩
noncomputable def kOf (t : Sem Value) : List (Code × Pos) → Sem Value := match t with
  | .stack k => k
  | t => fun _ => t
noncomputable def guardT (target : Expr) (it : Value) (body orelse : List Stmt) (env : Env) (sb so more : List Stmt) (a b : Value) (m : Sem Value) : Sem Fin :=
  (do
    match ← (do
      match ← (do
        if ← (do let c ← operate [a, b] m; holding [c] (truthy c) : Sem Bool) then execs sb env else execs so env : Sem Flow) with
      | .next => execs more env
      | f => pure f : Sem Flow) with
    | .next | .cont => again (.forLoop target it body orelse env)
    | .brk => pure (.done .next)
    | .ret v => pure (.done (.ret v)) : Sem Fin).onRaise (fun x => do noteFrame x env; theTreesLotGoes x)
noncomputable def refArgs (c : Code) : Option (Addr × Addr) := match c with
  | .call _ args => match args.pos with
    | x :: l => match l with
      | y :: _ => match x with
        | .ref a => match y with
          | .ref b => some (a, b)
          | _ => none
        | _ => none
      | _ => none
    | _ => none
  | _ => none
noncomputable def headCode (c : Code) (ls : List CSpec) : Option Code := match ls with
  | x :: _ => some (x.code c)
  | [] => none
noncomputable def guardAt (c : Code) (oc : Option Code) : Option (List (Code × Pos) → Sem Fin) := match c with
  | .forLoop target it body orelse env => match body with
    | _ :: rest => match rest with
      | s :: more => match s with
        | .If _ sb so _ => match oc with
          | some c' => match refArgs c' with
            | some p => some (fun acts => guardT target it body orelse env sb so more (.ref p.1) (.ref p.2) (kOf (richCompare .NotEq (.ref p.1) (.ref p.2)) acts))
            | none => none
          | none => none
        | _ => none
      | _ => none
    | _ => none
  | _ => none
noncomputable def goStep (P : Par) (ih : GoTy) (c : Code) (κ : Kont) (t : Sem Fin) : Tail := match t with
  | .pure fin => match fin with
    | .done f => popS ih (.ok f) κ
    | .again c' => match c'.quiet with
      | true => match isLoop c' with
        | false => ih c' κ (denote treeTable c')
        | true => fun ks ls st ob => match ks % 128 with
          | 0 => ih c' κ (denote treeTable c') (ks / 128) ls st ob
          | _ + 1 => ctrS P (depOf κ) (uniOf κ) (hdOf κ) (frAds κ) c' (fun r => popS ih r κ) (ks / 128) ls st ob
      | false => bad 5
  | .raise e => fun ks ls st ob => match ks % 128 with
    | 0 => popS ih (.error e) κ (ks / 128) ls st ob
    | _ + 1 => (ob, .stop c κ (.raise e) st)
  | .rule _ k => ih c κ (k ())
  | .at _ k => ih c κ (k ())
  | .point _ k => ih c κ (k ())
  | .ask k => ih c κ (k ⟨P.prog, P.w.params⟩)
  | .load a _ k => fun ks ls st ob => match ks % 128 with
    | 0 => match P.kt.get a with
      | some o => ih c κ (k o) (ks / 128) ls st ob
      | none => bad 1 ks ls st ob
    | j + 1 => match Nat.beq j 126 with
      | true => (ob, .stop c κ t st)
      | false => match slAt st.sl j with
      | some s => ih c κ (k s.o) (ks / 128) ls st ((.ad a, .ad s.a) :: ob)
      | none => bad 2 ks ls st ob
  | .loadIfAlive a k => fun ks ls st ob => match ks % 128 with
    | 0 => match P.kt.get a with
      | some o => ih c κ (k (some o)) (ks / 128) ls st ob
      | none => bad 1 ks ls st ob
    | j + 1 => match slAt st.sl j with
      | some s => ih c κ (k (some s.o)) (ks / 128) ls st ((.ad a, .ad s.a) :: ob)
      | none => bad 2 ks ls st ob
  | .alloc o k => fun ks ls st ob => match o.isFreed with
    | true => bad 3 ks ls st ob
    | false => ih c κ (k st.sz) ks ls ⟨⟨st.sz, o, true⟩ :: st.sl, Nat.succ st.sz, st.tk, st.fs⟩ ob
  | .update a _ f k => fun ks ls st ob => match ks % 128 with
    | 0 => bad 6 ks ls st ob
    | j + 1 => match slAt st.sl j with
      | some s => match s.u with
        | true => match (f s.o).isFreed with
          | true => bad 3 ks ls st ob
          | false => ih c κ (k ()) (ks / 128) ls ⟨slMap f st.sl j, st.sz, st.tk, st.fs⟩ ((.ad a, .ad s.a) :: ob)
        | false => bad 7 ks ls st ob
      | none => bad 2 ks ls st ob
  | .fresh k => fun ks ls st ob => ih c κ (k st.tk) ks ls ⟨st.sl, st.sz, Nat.succ st.tk, st.fs⟩ ob
  | .handled own k => match own with
    | false => ih c κ (k (hdOf κ))
    | true => bad 8
  | .stack k => match stackNext P c κ k with
    | some c' => fun ks ls st ob => ih c κ (.pure (.again c')) ks ls st ((.tr (.stack k), .tr (Sem.bind (enterFrame 0) fun _ => .pure (.again c'))) :: ob)
    | none => fun ks ls st ob => match guardAt c (headCode c ls) with
      | none => ih c κ (k [(c, pos0)]) ks ls st ((.sk (fun p below => k ((c, p) :: below)), .sk (fun _ _ => k [(c, pos0)])) :: ob)
      | some K => match Nat.blt (c.cUnits + uniOf κ) P.U with
        | false => bad 18 ks ls st ob
        | true => ih c κ (K []) ks ls st ((.sk (fun p below => k ((c, p) :: below)), .sk (fun p below => K ((c, p) :: below))) :: ob)
  | .call c' hd _ _ k => fun ks ls st ob => match ks % 128 with
    | 0 => match okMark hd with
      | true => ih c' (.ret c hd k κ) (denote treeTable c') (ks / 128) ls st ob
      | false => bad 14 ks ls st ob
    | _ + 1 => ctrS P (c.weight + depOf κ) (c.cUnits + uniOf κ) (hd.or (hdOf κ)) (catO (envAds c.envs) (frAds κ)) c' (fun r => ih c κ (k r)) (ks / 128) ls st ob
  | .unsupported _ => bad 29
  | .finish _ => bad 30
  | .register .. => bad 31
  | .choose .. => bad 32
  | .os .. => bad 33
  | .fork .. => bad 34
  | .thread _ => bad 35
  | .await .. => bad 36
  | .newGen .. => bad 37
  | .genState .. => bad 38
  | .resume .. => bad 39
  | .yield .. => bad 40
noncomputable def go (P : Par) (n : Nat) : GoTy := @Nat.rec (fun _ => GoTy) (fun _ _ _ => bad 99) (fun _ ih => goStep P ih) n
set_option maxHeartbeats 0 in
lay_quick Mine.go
structure RepS (h₀ : Heap) (M₀ I₀ : List Addr) (O : List Fact) (st : St) (h : Heap) (tk : Nat) : Prop where
  size : h.objs.size = st.sz
  tok : tk = st.tk
  own : ∀ s ∈ st.sl, h.get? s.a = some s.o
  nd : (st.sl.map (·.a)).Nodup
  upd : ∀ s ∈ st.sl, s.u = true → s.a ∈ M₀ ∨ h₀.objs.size ≤ s.a
  keep : ∀ b o, h₀.get? b = some o → b ∉ M₀ → h.get? b = some o
  grow : h₀.objs.size ≤ h.objs.size
  fact : ∀ F ∈ st.fs, F.P h ∧ F.Stable ∧ F.hi ≤ h.objs.size ∧ ∀ s ∈ st.sl, s.u = true → s.a < F.lo ∨ F.hi ≤ s.a
  news : ∃ nw, st.fs = nw ++ O ∧ ∀ F ∈ nw, h₀.objs.size ≤ F.lo
  old : ∃ l, st.sl.map (·.a) = l ++ I₀ ∧ ∀ a ∈ l, h₀.objs.size ≤ a

section
variable {h₀ : Heap} {M₀ I₀ : List Addr} {O : List Fact} {st : St} {h : Heap} {tk : Nat}
theorem RepS.lt (D : RepS h₀ M₀ I₀ O st h tk) {s : Slot} (hs : s ∈ st.sl) : s.a < h.objs.size := Heap.lt_size (D.own s hs)
theorem RepS.alloc (D : RepS h₀ M₀ I₀ O st h tk) {o : Obj} (hf : o.isFreed = false) : RepS h₀ M₀ I₀ O ⟨⟨st.sz, o, true⟩ :: st.sl, Nat.succ st.sz, st.tk, st.fs⟩ (h.push o) tk where
  size := by rw [Heap.size_push, D.size]
  tok := D.tok
  own := fun s hs => by
    rcases List.mem_cons.mp hs with rfl | hs
    · show (h.push o).get? st.sz = some o
      rw [← D.size]; exact Heap.get?_push_size _ hf
    · exact Heap.get?_push_of_some _ (D.own s hs)
  nd := by
    refine List.nodup_cons.mpr ⟨fun hm => ?_, D.nd⟩
    obtain ⟨s, hs, e⟩ := List.mem_map.mp hm
    have := D.lt hs
    rw [e, D.size] at this
    exact Nat.lt_irrefl _ this
  upd := fun s hs hu => by
    rcases List.mem_cons.mp hs with rfl | hs
    · exact .inr (by show h₀.objs.size ≤ st.sz; rw [← D.size]; exact D.grow)
    · exact D.upd s hs hu
  keep := fun b o' e q => Heap.get?_push_of_some _ (D.keep b o' e q)
  grow := by rw [Heap.size_push]; exact Nat.le_succ_of_le D.grow
  fact := fun F hF => by
    obtain ⟨a, b, c, d⟩ := D.fact F hF
    refine ⟨b h _ (fun b o' _ _ e => Heap.get?_push_of_some _ e) a, b, by rw [Heap.size_push]; exact Nat.le_succ_of_le c, fun s hs hu => ?_⟩
    rcases List.mem_cons.mp hs with rfl | hs
    · exact .inr (by show F.hi ≤ st.sz; rw [← D.size]; exact c)
    · exact d s hs hu
  news := D.news
  old := by
    obtain ⟨l, e, k⟩ := D.old
    refine ⟨st.sz :: l, by show st.sz :: st.sl.map (·.a) = _; rw [e]; rfl, fun a ha => ?_⟩
    rcases List.mem_cons.mp ha with rfl | ha
    · rw [← D.size]; exact D.grow
    · exact k a ha
theorem RepS.update (D : RepS h₀ M₀ I₀ O st h tk) {j : Nat} {s : Slot} {f : Obj → Obj} (hs : slAt st.sl j = some s) (hu : s.u = true) (hf : (f s.o).isFreed = false) :
    RepS h₀ M₀ I₀ O ⟨slMap f st.sl j, st.sz, st.tk, st.fs⟩ (h.update s.a f) tk := by
  have hm := slAt_mem hs
  have ho := D.own s hm
  have hb : Heap.SameBut s.a h (h.update s.a f) := Heap.SameBut.update ..
  have hmap : (slMap f st.sl j).map (·.a) = st.sl.map (·.a) := slMap_map ..
  refine ⟨hb.1.trans D.size, D.tok, fun x hx => ?_, ?_, fun x hx hxu => ?_, fun b o' e q => ?_, ?_, fun F hF => ?_, D.news, by rw [hmap]; exact D.old⟩
  · rcases slMap_mem D.nd hs hx with rfl | ⟨hx, ne⟩
    · exact Heap.get?_update_self f ho hf
    · exact (hb.2 x.a ne).trans (D.own x hx)
  · show ((slMap f st.sl j).map (·.a)).Nodup
    rw [hmap]; exact D.nd
  · obtain ⟨y, hy, e1, e2⟩ := slMap_u hx
    rw [← e1]; exact D.upd y hy (e2.trans hxu)
  · refine (hb.2 b fun z => ?_).trans (D.keep b o' e q)
    subst z
    rcases D.upd s hm hu with z | z
    · exact q z
    · exact Nat.lt_irrefl _ (Nat.lt_of_lt_of_le (Heap.lt_size e) z)
  · rw [hb.1]; exact D.grow
  · obtain ⟨a, b, c, d⟩ := D.fact F hF
    refine ⟨b h _ (fun b o' h1 h2 e => (hb.2 b fun z => ?_).trans e) a, b, by rw [hb.1]; exact c, fun x hx hxu => ?_⟩
    · subst z
      rcases d s hm hu with z | z
      · exact absurd h1 (Nat.not_le.mpr z)
      · exact absurd h2 (Nat.not_lt.mpr z)
    · obtain ⟨y, hy, e1, e2⟩ := slMap_u hx
      rw [← e1]; exact d y hy (e2.trans hxu)
end

theorem slAt_map : ∀ {l l' : List Slot} {k : Nat} {s : Slot}, l'.map (·.a) = l.map (·.a) → slAt l k = some s → ∃ s', slAt l' k = some s' ∧ s'.a = s.a
  | [], _, _, _, _, h => nomatch h
  | x :: l, [], _, _, e, _ => nomatch e
  | x :: l, y :: l', 0, s, e, h => by
    have : x = s := Option.some.inj h
    subst this
    exact ⟨y, rfl, (List.cons.inj e).1⟩
  | x :: l, y :: l', k + 1, s, e, h => slAt_map (l := l) (l' := l') (List.cons.inj e).2 h
theorem updSl_map (sl : List Slot) : ∀ l : List (Nat × Addr × (Obj → Obj)), (updSl sl l).map (·.a) = sl.map (·.a)
  | [] => rfl
  | p :: l => by
    show (slMap p.2.2 (updSl sl l) p.1).map (·.a) = _
    rw [slMap_map, updSl_map sl l]
theorem updSl_u {sl : List Slot} : ∀ {l : List (Nat × Addr × (Obj → Obj))} {x : Slot}, x ∈ updSl sl l → ∃ y ∈ sl, y.a = x.a ∧ y.u = x.u
  | [], x, h => ⟨x, h, rfl, rfl⟩
  | p :: l, x, h => by
    obtain ⟨y, hy, e1, e2⟩ := slMap_u (show x ∈ slMap p.2.2 (updSl sl l) p.1 from h)
    obtain ⟨z, hz, e3, e4⟩ := updSl_u hy
    exact ⟨z, hz, e3.trans e1, e4.trans e2⟩
theorem updSl_mem {sl : List Slot} (nd : (sl.map (·.a)).Nodup) : ∀ {l : List (Nat × Addr × (Obj → Obj))} {x : Slot}, (l.map (·.2.1)).Nodup → (∀ p ∈ l, ∃ s, slAt sl p.1 = some s ∧ s.a = p.2.1) → x ∈ updSl sl l →
    (∃ p ∈ l, ∃ y ∈ sl, x.a = p.2.1 ∧ y.a = p.2.1 ∧ x.o = p.2.2 y.o) ∨ (x ∈ sl ∧ ∀ p ∈ l, x.a ≠ p.2.1)
  | [], x, _, _, h => .inr ⟨h, fun _ hp => nomatch hp⟩
  | p :: l, x, hn, hl, h => by
    have hn' := List.nodup_cons.mp hn
    obtain ⟨s, hs, ea⟩ := hl p (.head _)
    obtain ⟨s', hs', ea'⟩ := slAt_map (updSl_map sl l) hs
    have nd' : ((updSl sl l).map (·.a)).Nodup := by rw [updSl_map]; exact nd
    have ih := fun {x} => updSl_mem nd (x := x) hn'.2 (fun q hq => hl q (.tail _ hq))
    rcases slMap_mem nd' hs' (show x ∈ slMap p.2.2 (updSl sl l) p.1 from h) with rfl | ⟨hx, ne⟩
    · rcases ih (slAt_mem hs') with ⟨q, hq, y, hy, e1, e2, e3⟩ | ⟨hm, _⟩
      · exact absurd (List.mem_map.mpr ⟨q, hq, e1.symm.trans (ea'.trans ea)⟩) hn'.1
      · exact .inl ⟨p, .head _, s', hm, ea'.trans ea, ea'.trans ea, rfl⟩
    · rcases ih hx with ⟨q, hq, e⟩ | ⟨hx, hn⟩
      · exact .inl ⟨q, .tail _ hq, e⟩
      · refine .inr ⟨hx, fun q hq => ?_⟩
        rcases List.mem_cons.mp hq with rfl | hq
        · exact fun z => ne (z.trans (ea.symm.trans ea'.symm))
        · exact hn q hq
theorem addSl_mem {b : Bool} {sl : List Slot} : ∀ {l : List (Addr × Obj)} {x : Slot}, x ∈ addSl b sl l → (x.u = b ∧ (x.a, x.o) ∈ l) ∨ x ∈ sl
  | [], _, h => .inr h
  | p :: l, x, h => by
    rcases List.mem_cons.mp (show x ∈ (⟨p.1, p.2, b⟩ : Slot) :: addSl b sl l from h) with rfl | h
    · exact .inl ⟨rfl, .head _⟩
    · rcases addSl_mem h with ⟨a, b⟩ | b
      · exact .inl ⟨a, .tail _ b⟩
      · exact .inr b
theorem addSl_map (b : Bool) (sl : List Slot) : ∀ l : List (Addr × Obj), (addSl b sl l).map (·.a) = l.map (·.1) ++ sl.map (·.a)
  | [] => rfl
  | p :: l => by show p.1 :: (addSl b sl l).map (·.a) = _; rw [addSl_map b sl l]; rfl
theorem catF_mem {fs : List Fact} : ∀ {l : List Fact} {F : Fact}, F ∈ catF fs l → F ∈ l ∨ F ∈ fs
  | [], _, h => .inr h
  | p :: l, F, h => by
    rcases List.mem_cons.mp (show F ∈ p :: catF fs l from h) with rfl | h
    · exact .inl (.head _)
    · exact (catF_mem h).imp (.tail _) id

theorem catF_eq (fs : List Fact) : ∀ l : List Fact, catF fs l = l ++ fs
  | [] => rfl
  | p :: l => by show p :: catF fs l = _; rw [catF_eq fs l]; rfl
structure Post (s : CSpec) (h h' : Heap) : Prop where
  keep : ∀ b o, h.get? b = some o → (∀ p ∈ s.upd, b ≠ p.2.1) → h'.get? b = some o
  size : h'.objs.size = szOf s.pu h.objs.size s.sz
  grow : h.objs.size ≤ h'.objs.size
  upd : ∀ p ∈ s.upd, ∀ o, h.get? p.2.1 = some o → h'.get? p.2.1 = some (p.2.2 o)
  add : ∀ p ∈ s.add, h'.get? p.1 = some p.2 ∧ h.objs.size ≤ p.1
  nd : (s.add.map (·.1)).Nodup
  fact : ∀ F ∈ s.fs, F.P h' ∧ F.Stable ∧ h.objs.size ≤ F.lo ∧ F.hi ≤ h'.objs.size ∧ (s.au = true → ∀ p ∈ s.add, p.1 < F.lo ∨ F.hi ≤ p.1)

theorem RepS.apply {h₀ : Heap} {M₀ I₀ : List Addr} {O : List Fact} {st : St} {h h' : Heap} {tk : Nat} {s : CSpec} (D : RepS h₀ M₀ I₀ O st h tk) (hun : (s.upd.map (·.2.1)).Nodup) (hu : ∀ p ∈ s.upd, ∃ x, slAt st.sl p.1 = some x ∧ x.a = p.2.1 ∧ x.u = true) (Q : Post s h h') :
    RepS h₀ M₀ I₀ O ⟨addSl s.au (updSl st.sl s.upd) s.add, szOf s.pu st.sz s.sz, s.tk, catF st.fs s.fs⟩ h' s.tk := by
  have hl : ∀ p ∈ s.upd, ∃ x, slAt st.sl p.1 = some x ∧ x.a = p.2.1 := fun p hp => let ⟨x, a, b, _⟩ := hu p hp; ⟨x, a, b⟩
  have out : ∀ p ∈ s.upd, ∃ x ∈ st.sl, x.a = p.2.1 ∧ x.u = true := fun p hp => let ⟨x, a, b, c⟩ := hu p hp; ⟨x, slAt_mem a, b, c⟩
  refine ⟨by rw [Q.size, D.size], rfl, fun x hx => ?_, ?_, fun x hx hxu => ?_, fun b o e q => ?_, Nat.le_trans D.grow Q.grow, fun F hF => ?_, ?_, ?_⟩
  · rcases addSl_mem hx with ⟨_, hx⟩ | hx
    · exact (Q.add _ hx).1
    · rcases updSl_mem D.nd hun hl hx with ⟨p, hp, y, hy, e1, e2, e3⟩ | ⟨hx, hn⟩
      · rw [e1, e3]; exact Q.upd p hp _ (e2 ▸ D.own y hy)
      · exact Q.keep _ _ (D.own x hx) hn
  · show ((addSl s.au (updSl st.sl s.upd) s.add).map (·.a)).Nodup
    rw [addSl_map, updSl_map]
    refine List.nodup_append.mpr ⟨Q.nd, D.nd, fun a ha b hb e => ?_⟩
    obtain ⟨p, hp, rfl⟩ := List.mem_map.mp ha
    obtain ⟨x, hx, rfl⟩ := List.mem_map.mp hb
    have h1 := (Q.add p hp).2
    have h2 := D.lt hx
    rw [e] at h1
    exact Nat.lt_irrefl _ (Nat.lt_of_lt_of_le h2 h1)
  · rcases addSl_mem hx with ⟨hf, hx⟩ | hx
    · exact .inr (Nat.le_trans D.grow (Q.add _ hx).2)
    · obtain ⟨y, hy, e1, e2⟩ := updSl_u hx
      rw [← e1]; exact D.upd y hy (e2.trans hxu)
  · refine Q.keep b o (D.keep b o e q) fun p hp z => ?_
    obtain ⟨x, hx, ea, hxu⟩ := out p hp
    rcases D.upd x hx hxu with w | w
    · exact q (z.trans ea.symm ▸ w)
    · have := Heap.lt_size e
      rw [z, ← ea] at this
      exact Nat.lt_irrefl _ (Nat.lt_of_lt_of_le this w)
  · rcases catF_mem hF with hF | hF
    · obtain ⟨a, b, c, d, k⟩ := Q.fact F hF
      refine ⟨a, b, d, fun x hx hxu => ?_⟩
      rcases addSl_mem hx with ⟨hf, hm⟩ | hx
      · exact k (hf.symm.trans hxu) _ hm
      · obtain ⟨y, hy, e1, e2⟩ := updSl_u hx
        rw [← e1]; exact .inl (Nat.lt_of_lt_of_le (D.lt hy) c)
    · obtain ⟨a, b, c, d⟩ := D.fact F hF
      refine ⟨b h _ (fun b o h1 h2 e => Q.keep b o e fun p hp z => ?_) a, b, Nat.le_trans c Q.grow, fun x hx hxu => ?_⟩
      · obtain ⟨x, hx, ea, hxu⟩ := out p hp
        rcases d x hx hxu with w | w
        · rw [ea, ← z] at w; exact absurd h1 (Nat.not_le.mpr w)
        · rw [ea, ← z] at w; exact absurd h2 (Nat.not_lt.mpr w)
      · rcases addSl_mem hx with ⟨hf, hm⟩ | hx
        · exact .inr (Nat.le_trans c (Q.add _ hm).2)
        · obtain ⟨y, hy, e1, e2⟩ := updSl_u hx
          rw [← e1]; exact d y hy (e2.trans hxu)
  · obtain ⟨nw, e, k⟩ := D.news
    refine ⟨s.fs ++ nw, ?_, fun F hF => ?_⟩
    · show catF st.fs s.fs = _
      rw [catF_eq, e, List.append_assoc]
    · rcases List.mem_append.mp hF with hF | hF
      · exact Nat.le_trans D.grow (Q.fact F hF).2.2.1
      · exact k F hF
  · obtain ⟨l, e, k⟩ := D.old
    refine ⟨s.add.map (·.1) ++ l, ?_, fun a ha => ?_⟩
    · show (addSl s.au (updSl st.sl s.upd) s.add).map (·.a) = _
      rw [addSl_map, updSl_map, e, List.append_assoc]
    · rcases List.mem_append.mp ha with ha | ha
      · obtain ⟨p, hp, rfl⟩ := List.mem_map.mp ha
        exact Nat.le_trans D.grow (Q.add p hp).2
      · exact k a ha
theorem pairs_eq : ∀ {ob : Obs}, ob.map (·.1) = ob.map (·.2) → ∀ p ∈ ob, p.1 = p.2
  | [], _, _, h => nomatch h
  | x :: ob, e, p, h => by
    have e' : x.1 :: ob.map (·.1) = x.2 :: ob.map (·.2) := e
    rcases List.mem_cons.mp h with rfl | h
    · exact (List.cons.inj e').1
    · exact pairs_eq (List.cons.inj e').2 p h
theorem obs_eq {l ob : Obs} (e : (l ++ ob).map (·.1) = (l ++ ob).map (·.2)) : ∀ p ∈ ob, p.1 = p.2 := fun p hp => pairs_eq e p (List.mem_append_right _ hp)

theorem assoc_obs (l r5 r4 r3 r2 r1 ob : Obs) (x : Side × Side) : l ++ x :: (r5 ++ (r4 ++ (r3 ++ (r2 ++ (r1 ++ ob))))) = (l ++ x :: (r5 ++ (r4 ++ (r3 ++ (r2 ++ r1))))) ++ ob := by simp
theorem fsAt_mem : ∀ {l : List Fact} {k : Nat} {s : Fact}, fsAt l k = some s → s ∈ l
  | [], _, _, h => nomatch h
  | x :: l, 0, s, h => by have : x = s := Option.some.inj h; subst this; exact .head _
  | x :: l, k + 1, s, h => .tail _ (fsAt_mem (l := l) (k := k) h)
noncomputable def Grows (f : Tail) : Prop := ∀ ks ls st ob, ∃ l : Obs, (f ks ls st ob).1 = l ++ ob
theorem bad_grows (n : Nat) : Grows (bad n) := fun _ _ _ _ => ⟨[], rfl⟩
theorem grows_cons {f : Tail} (h : Grows f) (ks ls st ob) (p : Side × Side) : ∃ l : Obs, (f ks ls st (p :: ob)).1 = l ++ ob := by
  obtain ⟨l, e⟩ := h ks ls st (p :: ob)
  exact ⟨l ++ [p], by rw [e, List.append_assoc]; rfl⟩
theorem preObs_spec {sl : List Slot} {ob : Obs} : ∀ {l : List (Nat × Addr × (Obj → Obj))} {ob1 : Obs}, preObs sl ob l = some ob1 → (∃ r : Obs, ob1 = r ++ ob) ∧ ∀ p ∈ l, ∃ s, slAt sl p.1 = some s ∧ (Side.ad s.a, Side.ad p.2.1) ∈ ob1 ∧ (Side.ob s.o, Side.ob (p.2.2 s.o)) ∈ ob1
  | [], ob1, h => by
    have : ob = ob1 := Option.some.inj h
    subst this
    exact ⟨⟨[], rfl⟩, fun _ hp => nomatch hp⟩
  | p :: l, ob1, h => by
    have h' : (match preObs sl ob l with | none => none | some r => match slAt sl p.1 with | some s => some ((Side.ad s.a, Side.ad p.2.1) :: (Side.ob s.o, Side.ob (p.2.2 s.o)) :: r) | none => none) = some ob1 := h
    cases e : preObs sl ob l with
    | none => rw [e] at h'; cases h'
    | some r =>
      rw [e] at h'
      cases e2 : slAt sl p.1 with
      | none => rw [e2] at h'; cases h'
      | some s =>
        rw [e2] at h'
        cases h'
        obtain ⟨⟨r', e3⟩, hr⟩ := preObs_spec e
        refine ⟨⟨(Side.ad s.a, Side.ad p.2.1) :: (Side.ob s.o, Side.ob (p.2.2 s.o)) :: r', by rw [e3]; rfl⟩, fun q hq => ?_⟩
        rcases List.mem_cons.mp hq with rfl | hq
        · exact ⟨s, e2, .head _, .tail _ (.head _)⟩
        · obtain ⟨s', a, b, c⟩ := hr q hq
          exact ⟨s', a, .tail _ (.tail _ b), .tail _ (.tail _ c)⟩
theorem updObs_spec {sl : List Slot} {ob : Obs} : ∀ {l : List (Nat × Addr × (Obj → Obj))} {ob1 : Obs}, updObs sl ob l = some ob1 → (∃ r : Obs, ob1 = r ++ ob) ∧ ∀ p ∈ l, ∃ s, slAt sl p.1 = some s ∧ s.u = true ∧ (Side.ad s.a, Side.ad p.2.1) ∈ ob1
  | [], ob1, h => by
    have : ob = ob1 := Option.some.inj h
    subst this
    exact ⟨⟨[], rfl⟩, fun _ hp => nomatch hp⟩
  | p :: l, ob1, h => by
    have h' : (match updObs sl ob l with | none => none | some r => match slAt sl p.1 with | some s => (match s.u with | true => some ((Side.ad s.a, Side.ad p.2.1) :: r) | false => none) | none => none) = some ob1 := h
    cases e : updObs sl ob l with
    | none => rw [e] at h'; cases h'
    | some r =>
      rw [e] at h'
      cases e2 : slAt sl p.1 with
      | none => rw [e2] at h'; cases h'
      | some s =>
        rw [e2] at h'
        cases e4 : s.u with
        | false => simp only [e4] at h'; cases h'
        | true =>
          simp only [e4] at h'
          cases h'
          obtain ⟨⟨r', e3⟩, hr⟩ := updObs_spec e
          refine ⟨⟨(Side.ad s.a, Side.ad p.2.1) :: r', by rw [e3]; rfl⟩, fun q hq => ?_⟩
          rcases List.mem_cons.mp hq with rfl | hq
          · exact ⟨s, e2, e4, .head _⟩
          · obtain ⟨s', a, b, c⟩ := hr q hq
            exact ⟨s', a, b, .tail _ c⟩
theorem zqObs_spec {sz : Nat} {ob : Obs} {zq : Option Addr} : (∃ r : Obs, zqObs sz ob zq = r ++ ob) ∧ ∀ a, zq = some a → (Side.ad sz, Side.ad (Nat.succ a)) ∈ zqObs sz ob zq := by
  cases zq with
  | none => exact ⟨⟨[], rfl⟩, fun _ h => nomatch h⟩
  | some a => exact ⟨⟨[_], rfl⟩, fun _ h => by cases h; exact .head _⟩
theorem flObs_spec {b : Bool} {frs : Option (List Addr)} {ob ob1 : Obs} {fl : Option (List Addr)} (h : flObs b frs ob fl = some ob1) : (∃ r : Obs, ob1 = r ++ ob) ∧ ∀ l, fl = some l → b = true ∧ ∃ l', frs = some l' ∧ (Side.al l', Side.al l) ∈ ob1 := by
  unfold flObs at h
  cases fl with
  | none =>
    have : ob = ob1 := Option.some.inj h
    subst this
    exact ⟨⟨[], rfl⟩, fun _ h => nomatch h⟩
  | some l =>
    cases b with
    | false => cases h
    | true =>
      cases frs with
      | none => cases h
      | some l' =>
        cases h
        exact ⟨⟨[(Side.al l', Side.al l)], rfl⟩, fun _ e => by cases e; exact ⟨rfl, _, rfl, .head _⟩⟩
theorem pfObs_spec {fs : List Fact} {ob : Obs} : ∀ {l : List (Nat × Fact)} {ob1 : Obs}, pfObs fs ob l = some ob1 → (∃ r : Obs, ob1 = r ++ ob) ∧ ∀ p ∈ l, ∃ F ∈ fs, (Side.fc F, Side.fc p.2) ∈ ob1
  | [], ob1, h => by
    have : ob = ob1 := Option.some.inj h
    subst this
    exact ⟨⟨[], rfl⟩, fun _ hp => nomatch hp⟩
  | p :: l, ob1, h => by
    have h' : (match pfObs fs ob l with | none => none | some r => match fsAt fs p.1 with | some F => some ((Side.fc F, Side.fc p.2) :: r) | none => none) = some ob1 := h
    cases e : pfObs fs ob l with
    | none => rw [e] at h'; cases h'
    | some r =>
      rw [e] at h'
      cases e2 : fsAt fs p.1 with
      | none => rw [e2] at h'; cases h'
      | some F =>
        rw [e2] at h'
        cases h'
        obtain ⟨⟨r', e3⟩, hr⟩ := pfObs_spec e
        refine ⟨⟨(Side.fc F, Side.fc p.2) :: r', by rw [e3]; rfl⟩, fun q hq => ?_⟩
        rcases List.mem_cons.mp hq with rfl | hq
        · exact ⟨F, fsAt_mem e2, .head _⟩
        · obtain ⟨s', a, b⟩ := hr q hq
          exact ⟨s', a, .tail _ b⟩
theorem updObs_same {sl : List Slot} {ob : Obs} : ∀ {l l' : List (Nat × Addr × (Obj → Obj))}, l.map (fun p => (p.1, p.2.1)) = l'.map (fun p => (p.1, p.2.1)) → updObs sl ob l = updObs sl ob l'
  | [], [], _ => rfl
  | [], _ :: _, e => nomatch e
  | _ :: _, [], e => nomatch e
  | p :: l, q :: l', e => by
    have e1 := (List.cons.inj e).1
    have e2 := updObs_same (sl := sl) (ob := ob) (List.cons.inj e).2
    obtain ⟨p1, p2, p3⟩ := p
    obtain ⟨q1, q2, q3⟩ := q
    obtain ⟨rfl, rfl⟩ : p1 = q1 ∧ p2 = q2 := by simpa using e1
    show (match updObs sl ob l with | none => none | some r => match slAt sl p1 with | some s => (match s.u with | true => some ((Side.ad s.a, Side.ad p2) :: r) | false => none) | none => none) = (match updObs sl ob l' with | none => none | some r => match slAt sl p1 with | some s => (match s.u with | true => some ((Side.ad s.a, Side.ad p2) :: r) | false => none) | none => none)
    rw [e2]

section
variable {P : Par} {ih : GoTy} (IH : ∀ c κ t, Grows (ih c κ t))
include IH
theorem popS_grows (r : Result) (κ : Kont) : Grows (popS ih r κ) := by
  cases κ with
  | base => exact fun _ _ _ _ => ⟨[], rfl⟩
  | ret c hd k κ => exact IH _ _ _
  | gen => exact bad_grows _
  | genS => exact bad_grows _
omit IH in
theorem ctrS_grows {dep uni : Nat} {hd : Option Value} {frs : Option (List Addr)} {c' : Code} {kont : Result → Tail} (hk : ∀ r, Grows (kont r)) : Grows (ctrS P dep uni hd frs c' kont) := by
  intro ks ls st ob
  unfold ctrS
  split
  · exact bad_grows _ _ _ _ _
  · split
    · exact bad_grows _ _ _ _ _
    · split
      · exact bad_grows _ _ _ _ _
      · split
        · exact bad_grows _ _ _ _ _
        · split
          · exact bad_grows _ _ _ _ _
          · rename_i ob1 e1
            split
            · exact bad_grows _ _ _ _ _
            · rename_i ob2 e2
              split
              · exact bad_grows _ _ _ _ _
              · rename_i ob3 e3
                split
                · exact bad_grows _ _ _ _ _
                · rename_i ob4 e4
                  obtain ⟨⟨r1, h1⟩, _⟩ := preObs_spec e1
                  obtain ⟨⟨r2, h2⟩, _⟩ := updObs_spec e2
                  obtain ⟨⟨r3, h3⟩, _⟩ := pfObs_spec e3
                  obtain ⟨⟨r4, h4⟩, _⟩ := flObs_spec e4
                  have gen : ∀ r ks ls st x sz zq, ∃ l' : Obs, (kont r ks ls st (x :: zqObs sz ob4 zq)).1 = l' ++ ob := fun r ks ls st x sz zq => by
                    obtain ⟨⟨r5, h5⟩, _⟩ := @zqObs_spec sz ob4 zq
                    obtain ⟨l, hl⟩ := hk r ks ls st (x :: zqObs sz ob4 zq)
                    refine ⟨l ++ x :: (r5 ++ (r4 ++ (r3 ++ (r2 ++ r1)))), hl.trans ?_⟩
                    rw [h5, h4, h3, h2, h1, assoc_obs]
                  exact gen _ _ _ _ _ _ _
theorem step_grows (c : Code) (κ : Kont) (t : Sem Fin) : Grows (goStep P ih c κ t) := by
  cases t with
  | pure fin =>
    cases fin with
    | done f => exact popS_grows IH _ _
    | again c' =>
      cases q : c'.quiet with
      | false => simp only [goStep, q]; exact bad_grows _
      | true =>
        simp only [goStep, q]
        split
        · exact IH _ _ _
        · intro ks ls st ob
          show ∃ l : Obs, ((match ks % 128 with | 0 => ih c' κ (denote treeTable c') (ks / 128) ls st ob | _ + 1 => ctrS P (depOf κ) (uniOf κ) (hdOf κ) (frAds κ) c' (fun r => popS ih r κ) (ks / 128) ls st ob).1) = l ++ ob
          split
          · exact IH _ _ _ _ _ _ _
          · exact ctrS_grows (fun r => popS_grows IH r κ) _ _ _ _
  | raise e =>
    intro ks ls st ob
    show ∃ l : Obs, ((match ks % 128 with | 0 => popS ih (.error e) κ (ks / 128) ls st ob | _ + 1 => (ob, .stop c κ (.raise e) st)).1) = l ++ ob
    split
    · exact popS_grows IH _ _ _ _ _ _
    · exact ⟨[], rfl⟩
  | rule tag k => exact IH _ _ _
  | «at» q k => exact IH _ _ _
  | point l k => exact IH _ _ _
  | ask k => exact IH _ _ _
  | load a q k =>
    intro ks ls st ob
    simp only [goStep]
    split
    · split
      · exact IH _ _ _ _ _ _ _
      · exact bad_grows _ _ _ _ _
    · split
      · exact ⟨[], rfl⟩
      · split
        · exact grows_cons (IH _ _ _) _ _ _ _ _
        · exact bad_grows _ _ _ _ _
  | loadIfAlive a k =>
    intro ks ls st ob
    simp only [goStep]
    split
    · split
      · exact IH _ _ _ _ _ _ _
      · exact bad_grows _ _ _ _ _
    · split
      · exact grows_cons (IH _ _ _) _ _ _ _ _
      · exact bad_grows _ _ _ _ _
  | alloc o k =>
    intro ks ls st ob
    simp only [goStep]
    split
    · exact bad_grows _ _ _ _ _
    · exact IH _ _ _ _ _ _ _
  | update a q f k =>
    intro ks ls st ob
    simp only [goStep]
    split
    · exact bad_grows _ _ _ _ _
    · split
      · split
        · split
          · exact bad_grows _ _ _ _ _
          · exact grows_cons (IH _ _ _) _ _ _ _ _
        · exact bad_grows _ _ _ _ _
      · exact bad_grows _ _ _ _ _
  | fresh k => exact fun _ _ _ _ => IH _ _ _ _ _ _ _
  | handled own k =>
    cases own with
    | true => exact bad_grows _
    | false => exact IH _ _ _
  | stack k =>
    simp only [goStep]
    split
    · exact fun _ _ _ _ => grows_cons (IH _ _ _) _ _ _ _ _
    · intro ks ls st ob
      show ∃ l : Obs, (match guardAt c (headCode c ls) with
        | none => ih c κ (k [(c, pos0)]) ks ls st ((.sk (fun p below => k ((c, p) :: below)), .sk (fun _ _ => k [(c, pos0)])) :: ob)
        | some K => match Nat.blt (c.cUnits + uniOf κ) P.U with
          | false => bad 18 ks ls st ob
          | true => ih c κ (K []) ks ls st ((.sk (fun p below => k ((c, p) :: below)), .sk (fun p below => K ((c, p) :: below))) :: ob)).1 = l ++ ob
      split
      · exact grows_cons (IH _ _ _) _ _ _ _ _
      · split
        · exact bad_grows _ _ _ _ _
        · exact grows_cons (IH _ _ _) _ _ _ _ _
  | call c' hd g l k =>
    intro ks ls st ob
    simp only [goStep]
    split
    · split
      · exact IH _ _ _ _ _ _ _
      · exact bad_grows _ _ _ _ _
    · exact ctrS_grows (fun r => IH c κ (k r)) _ _ _ _
  | unsupported => exact bad_grows _
  | finish => exact bad_grows _
  | register => exact bad_grows _
  | choose => exact bad_grows _
  | os => exact bad_grows _
  | fork => exact bad_grows _
  | thread => exact bad_grows _
  | await => exact bad_grows _
  | newGen => exact bad_grows _
  | genState => exact bad_grows _
  | resume => exact bad_grows _
  | yield => exact bad_grows _
end
theorem go_grows (P : Par) : ∀ n c κ t, Grows (go P n c κ t)
  | 0 => fun _ _ _ => bad_grows _
  | n + 1 => fun c κ t => step_grows (P := P) (go_grows P n) c κ t
structure CtrIn (K : KT) (mu : List Addr) (h : Heap) : Prop where
  top : ∀ a o, K.get a = some o → h.get? a = some o ∧ a ∉ mu
  nol : h.NoLimit
noncomputable def upAddrs (s : CSpec) : List (Nat × Addr) := s.upd.map fun p => (p.1, p.2.1)
structure Node (P : Par) (Dv Uv : Nat) (X : Type) (s : X → CSpec) : Prop where
  ne : Nonempty X
  same : ∃ (code : Code → Code) (pre : List (Nat × Addr × (Obj → Obj))) (dl ul : Nat) (um : List (Nat × Addr)) (pf : List (Nat × Fact)) (fl : Option (List Addr)) (zq : Option Addr), (pre.map (·.1)).Nodup ∧ (um.map (·.1)).Nodup ∧ (∀ x, (s x).code = code ∧ (s x).pre = pre ∧ (s x).dl = dl ∧ (s x).ul = ul ∧ (s x).pf = pf ∧ (s x).fl = fl ∧ (s x).zq = zq ∧ upAddrs (s x) = um) ∧
    ∀ (c : Code) (A : Around) (h : Heap) (g : Array GenState) (d : Drawn) (tk : Nat) (os : OsState) (R : Result → Shared → Prop), c = code c → A.handled = none → A.depth + Dv + dl ≤ recursionLimit → A.units + Uv + ul ≤ cLine →
      CtrIn P.kt (um.map (·.2)) h → (∀ p ∈ pre, ∃ o, h.get? p.2.1 = some o ∧ o = p.2.2 o) → (pre.map (·.2.1)).Nodup → (um.map (·.2)).Nodup → (∀ p ∈ pf, p.2.P h ∧ p.2.Stable ∧ p.2.hi ≤ h.objs.size) → (∀ l, fl = some l → ∃ es, A.frames = some es ∧ envAds es = some l) → (∀ a, zq = some a → h.objs.size = a + 1) → (∀ x h', Post (s x) h h' → R (s x).res ⟨h', g, d, (s x).tk, os⟩) → codeAny (model P.prog P.w) A c R ⟨h, g, d, tk, os⟩

inductive Tele : Type 1 where
  | nil : Tele
  | cons (X : Type) (s : X → CSpec) (rest : X → Tele) : Tele
noncomputable def AllT : Tele → (List CSpec → Prop) → Prop
  | .nil, F => F []
  | .cons _ s rest, F => ∀ x, AllT (rest x) fun l => F (s x :: l)
noncomputable def ValidT (P : Par) (Dv Uv : Nat) : Tele → Prop
  | .nil => True
  | .cons X s rest => Node P Dv Uv X s ∧ ∀ x, ValidT P Dv Uv (rest x)
theorem AllT.some {P : Par} {Dv Uv : Nat} : ∀ {T : Tele} {F : List CSpec → Prop}, ValidT P Dv Uv T → AllT T F → ∃ l, F l
  | .nil, _, _, h => ⟨[], h⟩
  | .cons _ _ _, _, v, h => let ⟨x⟩ := v.1.ne; let ⟨l, hl⟩ := AllT.some (v.2 x) (h x); ⟨_, hl⟩
theorem AllT.all : ∀ (T : Tele) {F : List CSpec → Prop}, (∀ l, F l) → AllT T F
  | .nil, _, h => h []
  | .cons _ _ rest, _, h => fun x => AllT.all (rest x) fun l => h _
theorem AllT.head {P : Par} {Dv Uv : Nat} (c : Code) : ∀ {T : Tele}, ValidT P Dv Uv T → ∃ oc, AllT T fun l => headCode c l = oc
  | .nil, _ => ⟨none, rfl⟩
  | .cons X s rest, v => by
    obtain ⟨code, _, _, _, _, _, _, _, _, _, h, _⟩ := v.1.same
    refine ⟨Option.some (code c), fun x => ?_⟩
    have e : ∀ l : List CSpec, headCode c (s x :: l) = Option.some (code c) := fun l => by
      show Option.some ((s x).code c) = _
      rw [(h x).1]
    exact AllT.all (rest x) e
theorem AllT.and : ∀ {T : Tele} {F G : List CSpec → Prop}, AllT T F → AllT T G → AllT T fun l => F l ∧ G l
  | .nil, _, _, h, k => ⟨h, k⟩
  | .cons _ _ _, _, _, h, k => fun x => AllT.and (h x) (k x)
theorem AllT.mono : ∀ {T : Tele} {F G : List CSpec → Prop}, AllT T F → (∀ l, F l → G l) → AllT T G
  | .nil, _, _, h, k => k _ h
  | .cons _ _ _, _, _, h, k => fun x => AllT.mono (h x) fun l => k _

noncomputable def Vof (P : Par) (h₀ : Heap) (A₀ : Around) (R₀ : Result → Shared → Prop) (d : Drawn) (os : OsState) : XV := ⟨P.prog, P.w, h₀, 0, P.kt, [], A₀, R₀, d, 0, os⟩
noncomputable def Means' (V : XV) (c : Code) (κ : Kont) (t : Sem Fin) (s : Shared) : Prop := wpOwn (model V.prog V.w) (aroundOf V true κ) c t (postC V.prog V.w (aroundOf V true κ) (endOf V κ)) (postE (endOf V κ)) s
theorem around_depth (V : XV) : ∀ κ : Kont, (aroundOf V true κ).depth = V.A₀.depth + depOf κ
  | .base => rfl
  | .gen .. => rfl
  | .genS .. => rfl
  | .ret c hd k κ => by
    show (((aroundOf V true κ).under c).mark hd).depth = V.A₀.depth + (c.weight + depOf κ)
    have : (((aroundOf V true κ).under c).mark hd).depth = (aroundOf V true κ).depth + c.weight := rfl
    rw [this, around_depth V κ]; omega
theorem around_units (V : XV) : ∀ κ : Kont, (aroundOf V true κ).units = V.A₀.units + uniOf κ
  | .base => rfl
  | .gen .. => rfl
  | .genS .. => rfl
  | .ret c hd k κ => by
    show (((aroundOf V true κ).under c).mark hd).units = V.A₀.units + (c.cUnits + uniOf κ)
    have : (((aroundOf V true κ).under c).mark hd).units = (aroundOf V true κ).units + c.cUnits := rfl
    rw [this, around_units V κ]; omega
theorem around_handled (V : XV) (h : V.A₀.handled = none) : ∀ κ : Kont, (aroundOf V true κ).handled = hdOf κ
  | .base => h
  | .gen .. => h
  | .genS .. => h
  | .ret c hd k κ => by
    show hd.or (aroundOf V true κ).handled = hd.or (hdOf κ)
    rw [around_handled V h κ]

theorem catA_eq (l m : List Addr) : catA l m = l ++ m := by
  induction l with
  | nil => rfl
  | cons a l ih => show a :: catA l m = _; rw [ih]; rfl
theorem envAds_app : ∀ {a b : List Env} {l m : List Addr}, envAds a = some l → envAds b = some m → envAds (a ++ b) = some (l ++ m)
  | [], b, l, m, h1, h2 => by
    have : [] = l := Option.some.inj h1
    subst this; exact h2
  | e :: a, b, l, m, h1, h2 => by
    have h1' : (match e.frame with | none => none | some L => match isMod e.scope.kind with | true => none | false => match envAds a with | none => none | some l => some (L :: l)) = some l := h1
    show (match e.frame with | none => none | some L => match isMod e.scope.kind with | true => none | false => match envAds (a ++ b) with | none => none | some l => some (L :: l)) = some (l ++ m)
    cases q : e.frame with
    | none => rw [q] at h1'; cases h1'
    | some L =>
      rw [q] at h1'
      cases q2 : isMod e.scope.kind with
      | true => simp only [q2] at h1'; cases h1'
      | false =>
        simp only [q2] at h1'
        cases q3 : envAds a with
        | none => rw [q3] at h1'; cases h1'
        | some l' =>
          rw [q3] at h1'
          have : L :: l' = l := Option.some.inj h1'
          subst this
          rw [envAds_app q3 h2]; rfl
theorem frames_under {A : Around} {c : Code} {fr : Option (List Addr)} (h : ∀ {l}, fr = some l → ∃ es, A.frames = some es ∧ envAds es = some l) {l : List Addr} (e : catO (envAds c.envs) fr = some l) : ∃ es, (A.under c).frames = some es ∧ envAds es = some l := by
  unfold catO at e
  cases q : envAds c.envs with
  | none => rw [q] at e; cases e
  | some a =>
    rw [q] at e
    cases fr with
    | none => cases e
    | some m =>
      have e' : catA a m = l := Option.some.inj e
      obtain ⟨es, h1, h2⟩ := h rfl
      refine ⟨c.envs ++ es, ?_, ?_⟩
      · show pushEnvs c.envs A.frames = _
        rw [pushEnvs_eq, h1]; rfl
      · rw [envAds_app q h2, ← e', catA_eq]
theorem around_frames (V : XV) (h : V.A₀.frames = some []) : ∀ (κ : Kont) {l : List Addr}, frAds κ = some l → ∃ es, (aroundOf V true κ).frames = some es ∧ envAds es = some l
  | .base, l, e => ⟨[], h, e⟩
  | .gen .., _, e => nomatch e
  | .genS .., _, e => nomatch e
  | .ret c hd k κ, l, e => frames_under (A := aroundOf V true κ) (c := c) (around_frames V h κ) e
theorem nolimit_keep {h h' : Heap} (N : h.NoLimit) (k : ∀ o, h.get? cStatics = some o → h'.get? cStatics = some o) : h'.NoLimit := by
  obtain ⟨mc, ⟨o, es, n, ho, r⟩, hn⟩ := N
  exact ⟨mc, ⟨o, es, n, k o ho, r⟩, hn⟩

theorem slAt_inj : ∀ {l : List Slot} {j k : Nat} {x y : Slot}, (l.map (·.a)).Nodup → slAt l j = some x → slAt l k = some y → x.a = y.a → j = k
  | [], _, _, _, _, _, h, _, _ => nomatch h
  | z :: l, 0, 0, _, _, _, _, _, _ => rfl
  | z :: l, 0, k + 1, x, y, nd, h1, h2, e => by
    have : z = x := Option.some.inj h1
    subst this
    exact absurd (List.mem_map.mpr ⟨y, slAt_mem (l := l) (k := k) h2, e.symm⟩) (List.nodup_cons.mp nd).1
  | z :: l, j + 1, 0, x, y, nd, h1, h2, e => by
    have : z = y := Option.some.inj h2
    subst this
    exact absurd (List.mem_map.mpr ⟨x, slAt_mem (l := l) (k := j) h1, e⟩) (List.nodup_cons.mp nd).1
  | z :: l, j + 1, k + 1, x, y, nd, h1, h2, e => by rw [slAt_inj (l := l) (j := j) (k := k) (List.nodup_cons.mp nd).2 h1 h2 e]
theorem pre_nodup {sl : List Slot} (nd : (sl.map (·.a)).Nodup) : ∀ {pre : List (Nat × Addr × (Obj → Obj))}, (pre.map (·.1)).Nodup → (∀ p ∈ pre, ∃ y, slAt sl p.1 = some y ∧ y.a = p.2.1) → (pre.map (·.2.1)).Nodup
  | [], _, _ => .nil
  | p :: pre, h, k => by
    have h' := List.nodup_cons.mp h
    refine List.nodup_cons.mpr ⟨fun hm => ?_, pre_nodup nd h'.2 fun q hq => k q (.tail _ hq)⟩
    obtain ⟨q, hq, e⟩ := List.mem_map.mp hm
    obtain ⟨y, y1, y2⟩ := k p (.head _)
    obtain ⟨z, z1, z2⟩ := k q (.tail _ hq)
    have : q.1 = p.1 := slAt_inj nd z1 y1 (z2.trans (e.trans y2.symm))
    exact h'.1 (List.mem_map.mpr ⟨q, hq, this⟩)

theorem rich_at (a b : Addr) : ∃ (w : String) (X : Unit → Sem Value), ∀ acts : List (Code × Pos), kOf (richCompare .NotEq (.ref a) (.ref b)) acts = Sem.keep [.ref a, .ref b] (Sem.bind (if (acts.map (·.1.cUnits)).sum ≥ cLine then unsupported w else pure ()) X) := ⟨_, _, fun _ => rfl⟩
theorem guard_small {c : Code} {oc : Option Code} {K : List (Code × Pos) → Sem Fin} (h : guardAt c oc = some K) {acts : List (Code × Pos)} (hs : (acts.map (·.1.cUnits)).sum < cLine) : K acts = K [] := by
  unfold guardAt at h
  split at h <;> try cases h
  split at h <;> try cases h
  split at h <;> try cases h
  split at h <;> try cases h
  split at h <;> try cases h
  split at h <;> try cases h
  rename_i p _
  obtain ⟨w, X, e⟩ := rich_at p.1 p.2
  have e1 : kOf (richCompare .NotEq (.ref p.1) (.ref p.2)) acts = kOf (richCompare .NotEq (.ref p.1) (.ref p.2)) [] := by
    rw [e, e, if_neg (Nat.not_le.mpr hs), if_neg (by decide)]
  simp only [e1]
theorem go_succ (P : Par) (n : Nat) (c : Code) (κ : Kont) (t : Sem Fin) : go P (n + 1) c κ t = goStep P (go P n) c κ t := rfl
noncomputable def Ends (V : XV) (h₀ : Heap) (M₀ I₀ : List Addr) (O : List Fact) (g : Array GenState) (d : Drawn) (os : OsState) (R₀ : Result → Shared → Prop) (x : Obs × Res) : Prop :=
  x.1.map (·.1) = x.1.map (·.2) ∧ match x.2 with
    | .done r st => ∀ h tk, RepS h₀ M₀ I₀ O st h tk → R₀ r ⟨h, g, d, tk, os⟩
    | .stop c κ t st => ∀ h tk, RepS h₀ M₀ I₀ O st h tk → Means' V c κ t ⟨h, g, d, tk, os⟩
    | .fail _ => False

section
variable {P : Par} {h₀ : Heap} {A₀ : Around} {R₀ : Result → Shared → Prop} {d : Drawn} {os : OsState} {M₀ I₀ : List Addr} {O : List Fact} {g : Array GenState} {Dv Uv : Nat}
theorem ctr_sound (top : ∀ a o, P.kt.get a = some o → h₀.get? a = some o ∧ a ∉ M₀) {dep uni : Nat} {hd : Option Value} {frs : Option (List Addr)} {c' : Code} {kont : Result → Tail} {ks : Nat} {T : Tele} {st : St} {ob : Obs} {h : Heap} {tk : Nat} {A : Around} {R : Result → Shared → Prop}
    (v : ValidT P Dv Uv T) (H : AllT T (fun l => Ends (Vof P h₀ A₀ R₀ d os) h₀ M₀ I₀ O g d os R₀ (ctrS P dep uni hd frs c' kont ks l st ob))) (hk : ∀ r, Grows (kont r)) (D : RepS h₀ M₀ I₀ O st h tk) (nol' : h.NoLimit) (hA : A.handled = hd)
    (hfr : P.fr = true → ∀ l, frs = some l → ∃ es, A.frames = some es ∧ envAds es = some l)
    (hAd : A.depth + Dv + P.D ≤ recursionLimit + dep) (hAu : A.units + Uv + P.U ≤ cLine + uni)
    (hR : ∀ (T' : Tele) r ks' st' ob' h' tk', ValidT P Dv Uv T' → AllT T' (fun l => Ends (Vof P h₀ A₀ R₀ d os) h₀ M₀ I₀ O g d os R₀ (kont r ks' l st' ob')) → RepS h₀ M₀ I₀ O st' h' tk' → R r ⟨h', g, d, tk', os⟩) :
    codeAny (model P.prog P.w) A c' R ⟨h, g, d, tk, os⟩ := by
  have look : ∀ {a o}, P.kt.get a = some o → h.get? a = some o := fun e => D.keep _ _ (top _ _ e).1 (top _ _ e).2
  cases T with
  | nil => exact False.elim H.2
  | cons X s rest =>
    have H' : ∀ x, AllT (rest x) _ := H
    obtain ⟨x₀⟩ := v.1.ne
    obtain ⟨code, pre, dl, ul, um, pf, fl, zq, hnd, hun, hsame, hctr⟩ := v.1.same
    have key : hd = none ∧ Nat.ble (dl + dep) P.D = true ∧ Nat.ble (ul + uni) P.U = true ∧ ∃ ob1 ob2 ob3 ob4, preObs st.sl ob pre = some ob1 ∧ (∀ x, updObs st.sl ob1 (s x).upd = some ob2) ∧ pfObs st.fs ob2 pf = some ob3 ∧ flObs P.fr frs ob3 fl = some ob4 ∧
        c' = code c' ∧ (∀ p ∈ zqObs st.sz ob4 zq, p.1 = p.2) ∧ ∀ x, AllT (rest x) (fun l => Ends (Vof P h₀ A₀ R₀ d os) h₀ M₀ I₀ O g d os R₀ (kont (s x).res ks l ⟨addSl (s x).au (updSl st.sl (s x).upd) (s x).add, szOf (s x).pu st.sz (s x).sz, (s x).tk, catF st.fs (s x).fs⟩ ((Side.cd c', Side.cd ((s x).code c')) :: zqObs st.sz ob4 (s x).zq))) := by
      obtain ⟨l, hl⟩ := (H' x₀).some (v.2 x₀)
      obtain ⟨e1, e2, e3, e4, e6, e7, e8, e5⟩ := hsame x₀
      unfold ctrS at hl
      cases hd with
      | some _ => exact False.elim hl.2
      | none =>
        simp only [e3] at hl
        cases q2 : Nat.ble (dl + dep) P.D with
        | false => simp only [q2] at hl; exact False.elim hl.2
        | true =>
          simp only [q2, e4] at hl
          cases q3 : Nat.ble (ul + uni) P.U with
          | false => simp only [q3] at hl; exact False.elim hl.2
          | true =>
            simp only [q3, e2] at hl
            cases q4 : preObs st.sl ob pre with
            | none => simp only [q4] at hl; exact False.elim hl.2
            | some ob1 =>
              simp only [q4] at hl
              cases q5 : updObs st.sl ob1 (s x₀).upd with
              | none => simp only [q5] at hl; exact False.elim hl.2
              | some ob2 =>
                simp only [q5, e6] at hl
                cases q6 : pfObs st.fs ob2 pf with
                | none => simp only [q6] at hl; exact False.elim hl.2
                | some ob3 =>
                  simp only [q6, e7] at hl
                  cases q7 : flObs P.fr frs ob3 fl with
                  | none => simp only [q7] at hl; exact False.elim hl.2
                  | some ob4 =>
                  simp only [q7] at hl
                  have hup : ∀ x, updObs st.sl ob1 (s x).upd = some ob2 := fun x => (updObs_same (((hsame x).2.2.2.2.2.2.2).trans e5.symm)).trans q5
                  obtain ⟨r, hr⟩ := hk (s x₀).res ks l ⟨addSl (s x₀).au (updSl st.sl (s x₀).upd) (s x₀).add, szOf (s x₀).pu st.sz (s x₀).sz, (s x₀).tk, catF st.fs (s x₀).fs⟩ ((Side.cd c', Side.cd ((s x₀).code c')) :: zqObs st.sz ob4 (s x₀).zq)
                  have hl1 := hl.1
                  rw [hr] at hl1
                  have alle := obs_eq hl1
                  have ec : Side.cd c' = Side.cd ((s x₀).code c') := alle _ (.head _)
                  refine ⟨rfl, rfl, rfl, ob1, ob2, ob3, ob4, rfl, hup, q6, q7, (Side.cd.inj ec).trans (congrFun e1 c'), fun p hp => alle p (.tail _ (e8.symm ▸ hp)), fun x => (H' x).mono fun l hl => ?_⟩
                  obtain ⟨f1, f2, f3, f4, f6, f7, f8, f5⟩ := hsame x
                  unfold ctrS at hl
                  simp only [f2, f3, f4, f6, f7, q2, q3, q4, q6, q7, hup x] at hl
                  exact hl
    obtain ⟨h1, h2, h3, ob1, ob2, ob3, ob4, hpre, hupd, hpf, hfl, ec, hob5, Hn⟩ := key
    subst h1
    obtain ⟨⟨r1, hr1⟩, hp1⟩ := preObs_spec hpre
    obtain ⟨⟨r3, hr3⟩, hp3⟩ := pfObs_spec hpf
    obtain ⟨⟨r4, hr4⟩, hp4⟩ := flObs_spec hfl
    obtain ⟨⟨r5, hr5⟩, hp5⟩ := @zqObs_spec st.sz ob4 zq
    have hob4 : ∀ p ∈ ob4, p.1 = p.2 := fun p hp => hob5 p (by rw [hr5]; exact List.mem_append_right _ hp)
    have hob3 : ∀ p ∈ ob3, p.1 = p.2 := fun p hp => hob4 p (by rw [hr4]; exact List.mem_append_right _ hp)
    have hob : ∀ p ∈ ob2, p.1 = p.2 := fun p hp => hob3 p (by rw [hr3]; exact List.mem_append_right _ hp)
    have hob1 : ∀ p ∈ ob1, p.1 = p.2 := fun p hp => by
      obtain ⟨⟨r2, hr2⟩, _⟩ := updObs_spec (hupd x₀)
      exact hob p (by rw [hr2]; exact List.mem_append_right _ hp)
    have hu1 : ∀ x, ∀ p ∈ (s x).upd, ∃ y, slAt st.sl p.1 = some y ∧ y.a = p.2.1 ∧ y.u = true := fun x p hp => by
      obtain ⟨y, e1, e2, e3⟩ := (updObs_spec (hupd x)).2 p hp
      exact ⟨y, e1, Side.ad.inj (hob _ e3), e2⟩
    have hum : (um.map (·.2)).Nodup := by
      have := (hsame x₀).2.2.2.2.2.2.2
      rw [← this] at hun ⊢
      unfold upAddrs at hun ⊢
      rw [List.map_map] at hun ⊢
      exact pre_nodup (pre := (s x₀).upd) D.nd hun fun p hp => let ⟨y, a, b, _⟩ := hu1 x₀ p hp; ⟨y, a, b⟩
    have hux : ∀ x, ((s x).upd.map (·.2.1)).Nodup := fun x => by
      have := (hsame x).2.2.2.2.2.2.2
      have e : ((s x).upd.map (·.2.1)) = (upAddrs (s x)).map (·.2) := by unfold upAddrs; rw [List.map_map]; rfl
      rw [e, this]; exact hum
    refine hctr c' A h g d tk os _ ec hA ?_ ?_ ?_ ?_ ?_ hum ?_ ?_ ?_ ?_
    · have := Nat.le_of_ble_eq_true h2
      omega
    · have := Nat.le_of_ble_eq_true h3
      omega
    · refine ⟨fun a o e => ⟨look e, fun hm => ?_⟩, nol'⟩
      obtain ⟨q, hq, rfl⟩ := List.mem_map.mp hm
      rw [← (hsame x₀).2.2.2.2.2.2.2] at hq
      obtain ⟨p, hp, rfl⟩ := List.mem_map.mp hq
      obtain ⟨y, y1, y2, y3⟩ := hu1 x₀ p hp
      have t0 := top _ _ e
      rcases D.upd y (slAt_mem y1) y3 with w | w
      · exact t0.2 (y2 ▸ w)
      · have := Heap.lt_size t0.1
        rw [y2] at w
        exact Nat.lt_irrefl _ (Nat.lt_of_lt_of_le this w)
    · intro p hp
      obtain ⟨y, y1, y2, y3⟩ := hp1 p hp
      have e1 : y.a = p.2.1 := Side.ad.inj (hob1 _ y2)
      have e2 : y.o = p.2.2 y.o := Side.ob.inj (hob1 _ y3)
      exact ⟨y.o, e1 ▸ D.own y (slAt_mem y1), e2⟩
    · exact pre_nodup D.nd hnd fun p hp => by
        obtain ⟨y, y1, y2, _⟩ := hp1 p hp
        exact ⟨y, y1, Side.ad.inj (hob1 _ y2)⟩
    · intro p hp
      obtain ⟨F, hF, e⟩ := hp3 p hp
      have e1 : F = p.2 := Side.fc.inj (hob3 _ e)
      rw [← e1]
      have := D.fact F hF
      exact ⟨this.1, this.2.1, this.2.2.1⟩
    · intro l el
      obtain ⟨b1, l', b2, b3⟩ := hp4 l el
      have e1 : l' = l := Side.al.inj (hob4 _ b3)
      exact e1 ▸ hfr b1 l' b2
    · intro a ea
      have : Side.ad st.sz = Side.ad (Nat.succ a) := hob5 _ (hp5 a ea)
      rw [D.size]
      exact Side.ad.inj this
    · intro x h' Q
      exact hR (rest x) _ _ _ _ _ _ (v.2 x) (Hn x) (D.apply (hux x) (hu1 x) Q)

theorem sound (top : ∀ a o, P.kt.get a = some o → h₀.get? a = some o ∧ a ∉ M₀) (nol : h₀.NoLimit) (hcs : cStatics ∉ M₀) (hA : A₀.handled = none) (hD : A₀.depth + Dv + P.D ≤ recursionLimit) (hU : A₀.units + Uv + P.U ≤ cLine) (hF : P.fr = true → A₀.frames = some []) :
    ∀ n c κ t ks T st ob h tk, ValidT P Dv Uv T → AllT T (fun l => Ends (Vof P h₀ A₀ R₀ d os) h₀ M₀ I₀ O g d os R₀ (go P n c κ t ks l st ob)) → RepS h₀ M₀ I₀ O st h tk →
      Means' (Vof P h₀ A₀ R₀ d os) c κ t ⟨h, g, d, tk, os⟩
  | 0 => fun c κ t ks T st ob h tk v H D => by
    obtain ⟨l, hl⟩ := H.some v
    exact False.elim hl.2
  | n + 1 => by
    have IH := sound top nol hcs hA hD hU hF n
    intro c κ t ks T st ob h tk v H D
    have look : ∀ {a o}, P.kt.get a = some o → h.get? a = some o := fun e => D.keep _ _ (top _ _ e).1 (top _ _ e).2
    have nol' : h.NoLimit := nolimit_keep nol fun o e => D.keep _ _ e hcs
    have pop' : ∀ (T : Tele) (r : Result) ks st ob h tk, ValidT P Dv Uv T → AllT T (fun l => Ends (Vof P h₀ A₀ R₀ d os) h₀ M₀ I₀ O g d os R₀ (popS (go P n) r κ ks l st ob)) → RepS h₀ M₀ I₀ O st h tk → endOf (Vof P h₀ A₀ R₀ d os) κ r ⟨h, g, d, tk, os⟩ := fun T r ks st ob h tk v H D => by
      cases κ with
      | base =>
        obtain ⟨l, hl⟩ := H.some v
        exact hl.2 h tk D
      | ret c₁ hd k κ => exact IH _ _ _ _ T _ _ _ _ v H D
      | gen => obtain ⟨l, hl⟩ := H.some v; exact False.elim hl.2
      | genS => obtain ⟨l, hl⟩ := H.some v; exact False.elim hl.2
    have pop : ∀ (r : Result), AllT T (fun l => Ends (Vof P h₀ A₀ R₀ d os) h₀ M₀ I₀ O g d os R₀ (popS (go P n) r κ ks l st ob)) → endOf (Vof P h₀ A₀ R₀ d os) κ r ⟨h, g, d, tk, os⟩ := fun r H => pop' T r ks st ob h tk v H D
    have one : ∀ {F : List CSpec → Obs × Res}, AllT T (fun l => Ends (Vof P h₀ A₀ R₀ d os) h₀ M₀ I₀ O g d os R₀ (F l)) → ∃ l, Ends (Vof P h₀ A₀ R₀ d os) h₀ M₀ I₀ O g d os R₀ (F l) := fun H => H.some v
    cases t with
    | pure fin =>
      cases fin with
      | done f => exact y_pure _ _ _ _ _ _ _ _ _ (y_done _ _ _ _ _ _ (pop (.ok f) H))
      | again c' =>
        cases q : c'.quiet with
        | false =>
          obtain ⟨l, hl⟩ := one H
          simp only [go_succ, goStep, q] at hl
          exact False.elim hl.2
        | true =>
          have inl : ∀ {ks}, AllT T (fun l => Ends (Vof P h₀ A₀ R₀ d os) h₀ M₀ I₀ O g d os R₀ (go P n c' κ (denote treeTable c') ks l st ob)) → Means' (Vof P h₀ A₀ R₀ d os) c κ (.pure (.again c')) ⟨h, g, d, tk, os⟩ := fun H => by
            have z := IH _ _ _ _ T _ _ _ _ v H D
            rw [← table_eq_tree] at z
            exact y_pure _ _ _ _ _ _ _ _ _ (y_again _ _ _ _ _ _ q (y_code _ _ _ _ _ _ z))
          cases ql : isLoop c' with
          | false =>
            simp only [go_succ, goStep, q, ql] at H
            exact inl H
          | true =>
            simp only [go_succ, goStep, q, ql] at H
            split at H
            · exact inl H
            · refine y_pure _ _ _ _ _ _ _ _ _ (y_again _ _ _ _ _ _ q ?_)
              refine ctr_sound (A := aroundOf (Vof P h₀ A₀ R₀ d os) true κ) top v H (fun r => popS_grows (go_grows P n) r κ) D nol' ?_ (fun hb l el => ?_) ?_ ?_ ?_
              · exact around_handled (Vof P h₀ A₀ R₀ d os) hA κ
              · exact around_frames (Vof P h₀ A₀ R₀ d os) (hF hb) κ el
              · rw [around_depth]
                show A₀.depth + depOf κ + Dv + P.D ≤ recursionLimit + depOf κ
                omega
              · rw [around_units]
                show A₀.units + uniOf κ + Uv + P.U ≤ cLine + uniOf κ
                omega
              · intro T' r ks' st' ob' h' tk' v' H' D'
                exact pop' T' r ks' st' ob' h' tk' v' H' D'
    | raise e =>
      simp only [go_succ, goStep] at H
      split at H
      · exact y_raise _ _ _ _ _ _ _ _ _ (y_err _ _ _ (pop' T (.error e) _ st ob h tk v H D))
      · obtain ⟨l, hl⟩ := one H
        exact hl.2 h tk D
    | rule tag k => exact y_skim _ _ _ _ _ _ _ _ _ 1 (IH _ _ _ _ T _ _ _ _ v H D)
    | «at» q k => exact y_skim _ _ _ _ _ _ _ _ _ 1 (IH _ _ _ _ T _ _ _ _ v H D)
    | point l k => exact y_skim _ _ _ _ _ _ _ _ _ 1 (IH _ _ _ _ T _ _ _ _ v H D)
    | ask k => exact y_skim _ _ _ _ _ _ _ _ _ 1 (IH _ _ _ _ T _ _ _ _ v H D)
    | load a q k =>
      simp only [go_succ, goStep] at H
      split at H
      · split at H
        · rename_i o e
          exact y_load _ _ _ _ _ _ _ _ _ _ _ _ _ _ _ _ (look e) (IH _ _ _ _ T _ _ _ _ v H D)
        · obtain ⟨l, hl⟩ := one H; exact False.elim hl.2
      · split at H
        · obtain ⟨l, hl⟩ := one H
          exact hl.2 h tk D
        split at H
        · rename_i s e
          obtain ⟨l, hl⟩ := one H
          obtain ⟨r, hr⟩ := go_grows P n c κ (k s.o) (ks / 128) l st ((Side.ad a, Side.ad s.a) :: ob)
          have hl1 := hl.1
          rw [hr] at hl1
          have ea : Side.ad a = Side.ad s.a := obs_eq hl1 _ (.head _)
          cases ea
          exact y_load _ _ _ _ _ _ _ _ _ _ _ _ _ _ _ _ (D.own s (slAt_mem e)) (IH _ _ _ _ T _ _ _ _ v H D)
        · obtain ⟨l, hl⟩ := one H; exact False.elim hl.2
    | loadIfAlive a k =>
      simp only [go_succ, goStep] at H
      split at H
      · split at H
        · rename_i o e
          exact y_alive _ _ _ _ _ _ _ _ _ _ _ _ _ _ _ (look e) (IH _ _ _ _ T _ _ _ _ v H D)
        · obtain ⟨l, hl⟩ := one H; exact False.elim hl.2
      · split at H
        · rename_i s e
          obtain ⟨l, hl⟩ := one H
          obtain ⟨r, hr⟩ := go_grows P n c κ (k (some s.o)) (ks / 128) l st ((Side.ad a, Side.ad s.a) :: ob)
          have hl1 := hl.1
          rw [hr] at hl1
          have ea : Side.ad a = Side.ad s.a := obs_eq hl1 _ (.head _)
          cases ea
          exact y_alive _ _ _ _ _ _ _ _ _ _ _ _ _ _ _ (D.own s (slAt_mem e)) (IH _ _ _ _ T _ _ _ _ v H D)
        · obtain ⟨l, hl⟩ := one H; exact False.elim hl.2
    | alloc o k =>
      simp only [go_succ, goStep] at H
      split at H
      · obtain ⟨l, hl⟩ := one H; exact False.elim hl.2
      · rename_i hf
        have z := IH _ _ _ _ T _ _ _ _ v H (D.alloc hf)
        exact wpOwn_bind (m := PySem.alloc o) (f := k) (wpOwn_of_wpAny (wpAny_alloc (by show Means' _ _ _ (k h.objs.size) _; rw [D.size]; exact z)))
    | update a q f k =>
      simp only [go_succ, goStep] at H
      split at H
      · obtain ⟨l, hl⟩ := one H; exact False.elim hl.2
      · split at H
        · rename_i s e
          split at H
          · rename_i hu
            split at H
            · obtain ⟨l, hl⟩ := one H; exact False.elim hl.2
            · rename_i hf
              obtain ⟨l, hl⟩ := one H
              obtain ⟨r, hr⟩ := go_grows P n c κ (k ()) (ks / 128) l ⟨slMap f st.sl _, st.sz, st.tk, st.fs⟩ ((Side.ad a, Side.ad s.a) :: ob)
              have hl1 := hl.1
              rw [hr] at hl1
              have ea : Side.ad a = Side.ad s.a := obs_eq hl1 _ (.head _)
              cases ea
              have z := IH _ _ _ _ T _ _ _ _ v H (D.update e hu hf)
              exact wpOwn_bind (m := updatePart s.a q f) (f := k) (wpOwn_of_wpAny (wpAny_updatePart (D.own s (slAt_mem e)) z))
          · obtain ⟨l, hl⟩ := one H; exact False.elim hl.2
        · obtain ⟨l, hl⟩ := one H; exact False.elim hl.2
    | fresh k =>
      have e := D.tok
      subst e
      have D' : RepS h₀ M₀ I₀ O ⟨st.sl, st.sz, Nat.succ st.tk, st.fs⟩ h (Nat.succ st.tk) := ⟨D.size, rfl, D.own, D.nd, D.upd, D.keep, D.grow, D.fact, D.news, D.old⟩
      exact y_fresh _ _ _ _ _ _ _ _ _ _ _ _ _ (IH _ _ _ _ T _ _ _ _ v H D')
    | handled own k =>
      cases own with
      | true => obtain ⟨l, hl⟩ := one H; exact False.elim hl.2
      | false =>
        refine y_handled _ _ _ _ _ _ _ _ _ ?_
        rw [around_handled (Vof P h₀ A₀ R₀ d os) hA κ]
        exact IH _ _ _ _ T _ _ _ _ v H D
    | stack k =>
      cases hn : stackNext P c κ k with
      | none =>
        obtain ⟨oc, ho⟩ := AllT.head c v
        have H2 := H.and ho
        cases hg : guardAt c oc with
        | none =>
          have H3 : AllT T (fun l => Ends (Vof P h₀ A₀ R₀ d os) h₀ M₀ I₀ O g d os R₀ (go P n c κ (k [(c, pos0)]) ks l st ((Side.sk (fun p below => k ((c, p) :: below)), Side.sk (fun _ _ => k [(c, pos0)])) :: ob))) := H2.mono fun l ⟨hl, e⟩ => by
            simp only [go_succ, goStep, hn, e, hg] at hl
            exact hl
          obtain ⟨l, hl⟩ := one H3
          obtain ⟨r, hr⟩ := go_grows P n c κ (k [(c, pos0)]) ks l st ((Side.sk (fun p below => k ((c, p) :: below)), Side.sk (fun _ _ => k [(c, pos0)])) :: ob)
          have hl1 := hl.1
          rw [hr] at hl1
          have et : Side.sk (fun p below => k ((c, p) :: below)) = Side.sk (fun _ _ => k [(c, pos0)]) := obs_eq hl1 _ (.head _)
          have et' := Side.sk.inj et
          have z := IH _ _ _ _ T _ _ _ _ v H3 D
          refine y_stack _ _ _ _ _ _ _ _ _ fun p below _ => ?_
          have e2 : k ((c, p) :: below) = k [(c, pos0)] := congrFun (congrFun et' p) below
          rw [e2]
          exact z
        | some K =>
          cases hb : Nat.blt (c.cUnits + uniOf κ) P.U with
          | false =>
            obtain ⟨l, hl, e⟩ := H2.some v
            simp only [go_succ, goStep, hn, e, hg, hb] at hl
            exact False.elim hl.2
          | true =>
            have H3 : AllT T (fun l => Ends (Vof P h₀ A₀ R₀ d os) h₀ M₀ I₀ O g d os R₀ (go P n c κ (K []) ks l st ((Side.sk (fun p below => k ((c, p) :: below)), Side.sk (fun p below => K ((c, p) :: below))) :: ob))) := H2.mono fun l ⟨hl, e⟩ => by
              simp only [go_succ, goStep, hn, e, hg, hb] at hl
              exact hl
            obtain ⟨l, hl⟩ := one H3
            obtain ⟨r, hr⟩ := go_grows P n c κ (K []) ks l st ((Side.sk (fun p below => k ((c, p) :: below)), Side.sk (fun p below => K ((c, p) :: below))) :: ob)
            have hl1 := hl.1
            rw [hr] at hl1
            have et : Side.sk (fun p below => k ((c, p) :: below)) = Side.sk (fun p below => K ((c, p) :: below)) := obs_eq hl1 _ (.head _)
            have et' := Side.sk.inj et
            have z := IH _ _ _ _ T _ _ _ _ v H3 D
            refine y_stack _ _ _ _ _ _ _ _ _ fun p below li => ?_
            have e2 : k ((c, p) :: below) = K ((c, p) :: below) := congrFun (congrFun et' p) below
            have hs : (((c, p) :: below).map (·.1.cUnits)).sum < cLine := by
              have h1 := li.units
              have h2 : ((aroundOf (Vof P h₀ A₀ R₀ d os) true κ).under c).units = A₀.units + (c.cUnits + uniOf κ) := by
                show (aroundOf (Vof P h₀ A₀ R₀ d os) true κ).units + c.cUnits = _
                rw [around_units]
                show A₀.units + uniOf κ + c.cUnits = _
                omega
              have h3 : c.cUnits + uniOf κ < P.U := Nat.le_of_ble_eq_true hb
              omega
            rw [e2, guard_small hg hs]
            exact z
      | some c' =>
        simp only [go_succ, goStep, hn] at H
        have hd : Nat.blt (c.weight + depOf κ) P.D = true := by
          unfold stackNext at hn
          cases q : Nat.blt (c.weight + depOf κ) P.D with
          | true => rfl
          | false => rw [q] at hn; cases hn
        obtain ⟨l, hl⟩ := one H
        obtain ⟨r, hr⟩ := go_grows P n c κ (.pure (.again c')) ks l st ((Side.tr (.stack k), Side.tr (Sem.bind (enterFrame 0) fun _ => .pure (.again c'))) :: ob)
        have hl1 := hl.1
        rw [hr] at hl1
        have et : Side.tr (.stack k) = Side.tr (Sem.bind (enterFrame 0) fun _ => .pure (.again c')) := obs_eq hl1 _ (.head _)
        have et' := Side.tr.inj et
        have z := IH _ _ _ _ T _ _ _ _ v H D
        show Means' _ _ _ (Sem.stack k) _
        rw [et']
        refine wpOwn_bind (m := enterFrame 0) (f := fun _ => (Sem.pure (Fin.again c') : Sem Fin)) (wpOwn_of_wpAny (wpAny_enterFrame nol' ?_ z))
        show (aroundOf (Vof P h₀ A₀ R₀ d os) true κ).depth + c.weight < recursionLimit
        rw [around_depth]
        have hd' : c.weight + depOf κ < P.D := Nat.le_of_ble_eq_true hd
        show A₀.depth + depOf κ + c.weight < recursionLimit
        omega
    | call c' hd gd lv k =>
      simp only [go_succ, goStep] at H
      split at H
      · split at H
        · rename_i hk
          have hnb : hd ≠ some byPass := by
            intro e
            subst e
            simp [okMark] at hk
          have z := IH _ _ _ _ T _ _ _ _ v H D
          rw [← table_eq_tree] at z
          exact y_call _ _ _ _ _ _ _ _ _ _ _ _ _ hnb (y_code _ _ _ _ _ _ z)
        · obtain ⟨l, hl⟩ := one H; exact False.elim hl.2
      · have hn : hd.or (hdOf κ) = none := by
          obtain ⟨l, hl⟩ := one H
          cases q : hd.or (hdOf κ) with
          | none => rfl
          | some x =>
            rw [q] at hl
            cases l <;> exact False.elim hl.2
        have hhd : hd = none := by cases hd with | none => rfl | some _ => cases hn
        subst hhd
        refine y_call _ _ _ _ _ _ _ _ _ _ _ _ _ (fun e => nomatch e) ?_
        refine ctr_sound (A := ((aroundOf (Vof P h₀ A₀ R₀ d os) true κ).under c).mark none) top v H (fun r => go_grows P n c κ (k r)) D nol' ?_ (fun hb l el => ?_) ?_ ?_ ?_
        · show (none : Option Value).or (aroundOf (Vof P h₀ A₀ R₀ d os) true κ).handled = _
          rw [around_handled (Vof P h₀ A₀ R₀ d os) hA κ]
        · exact frames_under (around_frames (Vof P h₀ A₀ R₀ d os) (hF hb) κ) el
        · show (aroundOf (Vof P h₀ A₀ R₀ d os) true κ).depth + c.weight + Dv + P.D ≤ recursionLimit + (c.weight + depOf κ)
          rw [around_depth]
          show A₀.depth + depOf κ + c.weight + Dv + P.D ≤ recursionLimit + (c.weight + depOf κ)
          omega
        · show (aroundOf (Vof P h₀ A₀ R₀ d os) true κ).units + c.cUnits + Uv + P.U ≤ cLine + (c.cUnits + uniOf κ)
          rw [around_units]
          show A₀.units + uniOf κ + c.cUnits + Uv + P.U ≤ cLine + (c.cUnits + uniOf κ)
          omega
        · intro T' r ks' st' ob' h' tk' v' H' D'
          exact IH _ _ _ _ T' _ _ _ _ v' H' D'
    | unsupported => obtain ⟨l, hl⟩ := one H; exact False.elim hl.2
    | finish => obtain ⟨l, hl⟩ := one H; exact False.elim hl.2
    | register => obtain ⟨l, hl⟩ := one H; exact False.elim hl.2
    | choose => obtain ⟨l, hl⟩ := one H; exact False.elim hl.2
    | os => obtain ⟨l, hl⟩ := one H; exact False.elim hl.2
    | fork => obtain ⟨l, hl⟩ := one H; exact False.elim hl.2
    | thread => obtain ⟨l, hl⟩ := one H; exact False.elim hl.2
    | await => obtain ⟨l, hl⟩ := one H; exact False.elim hl.2
    | newGen => obtain ⟨l, hl⟩ := one H; exact False.elim hl.2
    | genState => obtain ⟨l, hl⟩ := one H; exact False.elim hl.2
    | resume => obtain ⟨l, hl⟩ := one H; exact False.elim hl.2
    | yield => obtain ⟨l, hl⟩ := one H; exact False.elim hl.2
end
noncomputable def goC (P : Par) (n : Nat) (c : Code) (ks : Nat) (ls : List CSpec) (st : St) : Obs × Res := go P n c .base (denote treeTable c) ks ls st []
theorem by_go {P : Par} {Dv Uv : Nat} {A : Around} {h : Heap} {g : Array GenState} {d : Drawn} {tk : Nat} {os : OsState} {R : Result → Shared → Prop} {mu : List Addr} {code : Code} (T : Tele) (n ks : Nat) (sl : List Slot) (O : List Fact) (hO : ∀ F ∈ O, F.P h ∧ F.Stable ∧ F.hi ≤ h.objs.size ∧ ∀ s ∈ sl, s.u = true → s.a < F.lo ∨ F.hi ≤ s.a)
    (hA : A.handled = none) (hD : A.depth + Dv + P.D ≤ recursionLimit) (hU : A.units + Uv + P.U ≤ cLine) (C : CtrIn P.kt mu h) (own : ∀ s ∈ sl, h.get? s.a = some s.o) (nd : (sl.map (·.a)).Nodup) (hu : ∀ s ∈ sl, s.u = true → s.a ∈ mu)
    (hcs : cStatics ∉ mu) (hF : P.fr = true → A.frames = some []) (v : ValidT P Dv Uv T) (H : AllT T fun l => Ends (Vof P h A R d os) h mu (sl.map (·.a)) O g d os R (goC P n code ks l ⟨sl, h.objs.size, tk, O⟩)) : codeAny (model P.prog P.w) A code R ⟨h, g, d, tk, os⟩ := by
  have D : RepS h mu (sl.map (·.a)) O ⟨sl, h.objs.size, tk, O⟩ h tk := ⟨rfl, rfl, own, nd, fun s hs q => .inl (hu s hs q), fun _ _ e _ => e, Nat.le_refl _, fun F hF => hO F hF, ⟨[], rfl, fun _ h => (nomatch h)⟩, ⟨[], rfl, fun _ ha => (nomatch ha)⟩⟩
  have z := sound (A₀ := A) (R₀ := R) (d := d) (os := os) (g := g) C.top C.nol hcs hA hD hU hF n code .base _ ks T _ [] h tk v H D
  rw [← table_eq_tree] at z
  exact y_code _ _ _ _ _ _ z

structure Fin1 (h₀ : Heap) (M₀ : List Addr) (O : List Fact) (ups adds : List (Addr × Obj)) (fs : List Fact) (h : Heap) : Prop where
  own : ∀ s ∈ ups, h.get? s.1 = some s.2
  add : ∀ s ∈ adds, h.get? s.1 = some s.2 ∧ h₀.objs.size ≤ s.1
  nd : (adds.map (·.1)).Nodup
  keep : ∀ b o, h₀.get? b = some o → b ∉ M₀ → h.get? b = some o
  grow : h₀.objs.size ≤ h.objs.size
  fact : ∀ F ∈ fs, F.P h ∧ F.Stable ∧ F.hi ≤ h.objs.size
  news : ∃ nw, fs = nw ++ O ∧ ∀ F ∈ nw, h₀.objs.size ≤ F.lo
theorem Fin1.new0 {h₀ : Heap} {M₀ : List Addr} {ups adds : List (Addr × Obj)} {fs : List Fact} {h : Heap} (x : Fin1 h₀ M₀ [] ups adds fs h) : ∀ F ∈ fs, h₀.objs.size ≤ F.lo := fun F hF => by
  obtain ⟨nw, e, k⟩ := x.news
  rw [List.append_nil] at e
  exact k F (e ▸ hF)
theorem Fin1.newO {h₀ : Heap} {M₀ : List Addr} {O nw : List Fact} {ups adds : List (Addr × Obj)} {h : Heap} (x : Fin1 h₀ M₀ O ups adds (nw ++ O) h) : ∀ F ∈ nw, h₀.objs.size ≤ F.lo := fun F hF => by
  obtain ⟨nw', e, k⟩ := x.news
  have := List.append_cancel_right e
  exact k F (this ▸ hF)
noncomputable def picks (sl : List Slot) (l : List Nat) : List (Option (Addr × Obj)) := @List.rec Nat (fun _ => List (Option (Addr × Obj))) [] (fun i _ ih => (match slAt sl i with | some s => some (s.a, s.o) | none => none) :: ih) l
noncomputable def lenL (sl : List Slot) : Nat := @List.rec Slot (fun _ => Nat) 0 (fun _ _ ih => Nat.succ ih) sl
noncomputable def allLt (m : Nat) (l : List Nat) : Bool := @List.rec Nat (fun _ => Bool) true (fun i _ ih => match Nat.blt i m with | true => ih | false => false) l
abbrev OutT := Result × List (Option (Addr × Obj)) × List (Option (Addr × Obj)) × List Fact × Bool
noncomputable def outOf (k : Nat) (ids nids : List Nat) (r : Res) : Option OutT := match r with
  | .done r st => some (r, picks st.sl ids, picks st.sl nids, st.fs, allLt (Nat.sub (lenL st.sl) k) nids)
  | .fail _ => none
  | .stop .. => none
noncomputable def lft (k : Nat) (ids nids : List Nat) (x : Obs × Res) : List Side × Option OutT := (x.1.map (·.1), outOf k ids nids x.2)
noncomputable def somes (l : List (Addr × Obj)) : List (Option (Addr × Obj)) := l.map some
noncomputable def rgt (x : Obs × Res) (r : Result) (ups adds : List (Addr × Obj)) (fs : List Fact) : List Side × Option OutT := (x.1.map (·.2), some (r, somes ups, somes adds, fs, true))
abbrev RunEq (k : Nat) (ids nids : List Nat) (x : Obs × Res) (r : Result) (ups adds : List (Addr × Obj)) (fs : List Fact) : Prop := lft k ids nids x = rgt x r ups adds fs
theorem picks_mem {sl : List Slot} : ∀ {ids : List Nat} {l : List (Addr × Obj)}, picks sl ids = somes l → ∀ s ∈ l, ∃ i ∈ ids, ∃ x, slAt sl i = some x ∧ x.a = s.1 ∧ x.o = s.2
  | [], [], _, _, h => nomatch h
  | [], _ :: _, e, _, _ => nomatch e
  | _ :: _, [], e, _, _ => nomatch e
  | i :: ids, x :: l, e, s, h => by
    have e' : (match slAt sl i with | some s => some (s.a, s.o) | none => none) :: picks sl ids = some x :: somes l := e
    obtain ⟨e1, e2⟩ := List.cons.inj e'
    rcases List.mem_cons.mp h with rfl | h
    · cases q : slAt sl i with
      | none => rw [q] at e1; cases e1
      | some y => rw [q] at e1; cases e1; exact ⟨i, .head _, y, q, rfl, rfl⟩
    · obtain ⟨j, hj, r⟩ := picks_mem e2 s h
      exact ⟨j, .tail _ hj, r⟩
theorem picks_nodup {sl : List Slot} (nd : (sl.map (·.a)).Nodup) : ∀ {ids : List Nat} {l : List (Addr × Obj)}, picks sl ids = somes l → ids.Nodup → (l.map (·.1)).Nodup
  | _, [], _, _ => .nil
  | [], _ :: _, e, _ => nomatch e
  | i :: ids, x :: l, e, hn => by
    have e' : (match slAt sl i with | some s => some (s.a, s.o) | none => none) :: picks sl ids = some x :: somes l := e
    obtain ⟨e1, e2⟩ := List.cons.inj e'
    have hn' := List.nodup_cons.mp hn
    refine List.nodup_cons.mpr ⟨fun hm => ?_, picks_nodup nd e2 hn'.2⟩
    obtain ⟨s, hs, es⟩ := List.mem_map.mp hm
    obtain ⟨j, hj, y, hy, ya, _⟩ := picks_mem e2 s hs
    cases q : slAt sl i with
    | none => rw [q] at e1; cases e1
    | some z =>
      rw [q] at e1; cases e1
      have : i = j := slAt_inj nd q hy (es.symm.trans ya.symm)
      exact hn'.1 (this ▸ hj)
theorem lenL_eq : ∀ sl : List Slot, lenL sl = sl.length
  | [] => rfl
  | _ :: l => congrArg Nat.succ (lenL_eq l)
theorem allLt_mem {m : Nat} : ∀ {l : List Nat}, allLt m l = true → ∀ i ∈ l, i < m
  | [], _, _, h => nomatch h
  | j :: l, e, i, h => by
    have e' : (match Nat.blt j m with | true => allLt m l | false => false) = true := e
    cases q : Nat.blt j m with
    | false => rw [q] at e'; cases e'
    | true =>
      rw [q] at e'
      rcases List.mem_cons.mp h with rfl | h
      · exact Nat.le_of_ble_eq_true q
      · exact allLt_mem e' i h
theorem slAt_get : ∀ {sl : List Slot} {i : Nat} {s : Slot}, slAt sl i = some s → (sl.map (·.a))[i]? = some s.a
  | [], _, _, h => nomatch h
  | x :: l, 0, s, h => by have : x = s := Option.some.inj h; subst this; rfl
  | x :: l, k + 1, s, h => slAt_get (sl := l) (i := k) h
theorem ends_of {V : XV} {h₀ : Heap} {M₀ I₀ : List Addr} {O : List Fact} {g : Array GenState} {d : Drawn} {os : OsState} {R₀ : Result → Shared → Prop} {x : Obs × Res} {k : Nat} {ids nids : List Nat} {r : Result} {ups adds : List (Addr × Obj)} {fs : List Fact}
    (e : RunEq k ids nids x r ups adds fs) (hk : I₀.length = k) (hn : nids.Nodup) (H : ∀ h tk, Fin1 h₀ M₀ O ups adds fs h → R₀ r ⟨h, g, d, tk, os⟩) : Ends V h₀ M₀ I₀ O g d os R₀ x := by
  have e1 : x.1.map (·.1) = x.1.map (·.2) := congrArg Prod.fst e
  have e2 : outOf k ids nids x.2 = some (r, somes ups, somes adds, fs, true) := congrArg Prod.snd e
  refine ⟨e1, ?_⟩
  cases q : x.2 with
  | fail n => rw [q] at e2; cases e2
  | stop => rw [q] at e2; cases e2
  | done r' st =>
    rw [q] at e2
    have e3 : (r', picks st.sl ids, picks st.sl nids, st.fs, allLt (Nat.sub (lenL st.sl) k) nids) = (r, somes ups, somes adds, fs, true) := Option.some.inj e2
    obtain ⟨rfl, e4, e5, e6, e7⟩ : r' = r ∧ picks st.sl ids = somes ups ∧ picks st.sl nids = somes adds ∧ st.fs = fs ∧ allLt (Nat.sub (lenL st.sl) k) nids = true := by simpa only [Prod.mk.injEq] using e3
    refine fun h tk D => H h tk ⟨fun s hs => ?_, fun s hs => ?_, picks_nodup D.nd e5 hn, D.keep, D.grow, fun F hF => ?_, ?_⟩
    · obtain ⟨i, _, y, hy, ya, yo⟩ := picks_mem e4 s hs
      rw [← ya, ← yo]; exact D.own y (slAt_mem hy)
    · obtain ⟨i, hi, y, hy, ya, yo⟩ := picks_mem e5 s hs
      refine ⟨by rw [← ya, ← yo]; exact D.own y (slAt_mem hy), ?_⟩
      obtain ⟨l, el, kl⟩ := D.old
      have h1 := slAt_get hy
      rw [el] at h1
      have h2 := allLt_mem e7 i hi
      rw [lenL_eq] at h2
      have h3 : st.sl.length = l.length + k := by
        have := congrArg List.length el
        rw [List.length_map, List.length_append, hk] at this
        exact this
      have h4 : i < l.length := by rw [h3] at h2; exact Nat.lt_of_lt_of_eq h2 (Nat.add_sub_cancel ..)
      rw [List.getElem?_append_left h4] at h1
      rw [← ya]
      exact kl _ (List.mem_of_getElem? h1)
    · have := D.fact F (e6 ▸ hF)
      exact ⟨this.1, this.2.1, this.2.2.1⟩
    · obtain ⟨nw, e, k⟩ := D.news
      exact ⟨nw, e6 ▸ e, k⟩

noncomputable def par (w : World) (b : Bool) (D U : Nat) : Par := ⟨pw, w.withFollow rowG b, ktOf w.params, D, U, false⟩

abbrev XT := Nat × Nat × (Nat → Nat)
structure Cn where
  co : (Nat → Nat) → Code
  sl : List Slot
  res : (Nat → Nat) → Result
  upi : List Nat := []
  upo : (Nat → Nat) → Nat → Obj := fun _ _ => default
  add : (Nat → Nat) → List (Addr × Obj) := fun _ => []
  fs : (Nat → Nat) → Nat → List Fact := fun _ _ => []
  D : Nat := 12
  U : Nat := 80
  pu : Bool := false
  au : Bool := false
  pf : List (Nat × Fact) := []
  fl : Option (List Addr) := none
  zq : Option Addr := none
noncomputable def tokV : Value → Nat
  | .str _ t => t
  | .int _ t => t
  | _ => 0
noncomputable def tokL1 (l : List Value) : Nat → Nat := @List.rec Value (fun _ => Nat → Nat) (fun _ => 0) (fun v _ ih i => @Nat.rec (fun _ => Nat) (tokV v) (fun i _ => ih i) i) l
noncomputable def tokAt : Code → Nat → Nat
  | .call _ ⟨l, _⟩ => tokL1 l
  | _ => fun _ => 0
noncomputable def natAt (l : List Nat) : Nat → Nat := @List.rec Nat (fun _ => Nat → Nat) (fun _ => 0) (fun v _ ih i => @Nat.rec (fun _ => Nat) v (fun i _ => ih i) i) l
noncomputable def adAt (l : List Slot) : Nat → Addr := @List.rec Slot (fun _ => Nat → Nat) (fun _ => 0) (fun v _ ih i => @Nat.rec (fun _ => Nat) v.a (fun i _ => ih i) i) l
noncomputable def zipP (ix : List Nat) (sl : List Slot) : List (Nat × Addr × (Obj → Obj)) := @List.rec Slot (fun _ => List Nat → List (Nat × Addr × (Obj → Obj))) (fun _ => []) (fun s _ ih ix => match ix with
  | [] => []
  | i :: ix => (i, s.a, fun _ => s.o) :: ih ix) sl ix
noncomputable def updP (ix : List Nat) (sl : List Slot) (o : Nat → Obj) (l : List Nat) : List (Nat × Addr × (Obj → Obj)) := @List.rec Nat (fun _ => List (Nat × Addr × (Obj → Obj))) [] (fun j _ ih => (natAt ix j, adAt sl j, fun _ => o j) :: ih) l
noncomputable def upsP (sl : List Slot) (o : Nat → Obj) (l : List Nat) : List (Addr × Obj) := @List.rec Nat (fun _ => List (Addr × Obj)) [] (fun j _ ih => (adAt sl j, o j) :: ih) l
noncomputable def Cn.spec (C : Cn) (ix : List Nat) (x : XT) : CSpec := { code := fun c => C.co (tokAt c), pre := zipP ix C.sl, res := C.res x.2.2, upd := updP ix C.sl (C.upo x.2.2) C.upi, add := C.add x.2.2, sz := x.1, tk := x.2.1, fs := C.fs x.2.2 x.1, dl := C.D, ul := C.U, pu := C.pu, au := C.au, pf := C.pf, fl := C.fl, zq := C.zq }
set_option maxHeartbeats 0 in
lay_quick Mine.goC
abbrev goT := PySem.W.Fast.tw4085548089458726376
theorem goT_eq : goC = goT := PySem.W.Fast.te4085548089458726376

theorem zipP_ix : ∀ {sl : List Slot} {ix : List Nat}, ix.length = sl.length → (zipP ix sl).map (·.1) = ix
  | [], [], _ => rfl
  | [], _ :: _, h => nomatch h
  | s :: sl, [], h => nomatch h
  | s :: sl, i :: ix, h => by
    show i :: (zipP ix sl).map (·.1) = _
    rw [zipP_ix (Nat.succ.inj h)]
theorem zipP_ad : ∀ {sl : List Slot} {ix : List Nat}, ix.length = sl.length → (zipP ix sl).map (·.2.1) = sl.map (·.a)
  | [], [], _ => rfl
  | [], _ :: _, h => nomatch h
  | s :: sl, [], h => nomatch h
  | s :: sl, i :: ix, h => by
    show s.a :: (zipP ix sl).map (·.2.1) = s.a :: sl.map (·.a)
    rw [zipP_ad (Nat.succ.inj h)]
theorem zipP_mem : ∀ {sl : List Slot} {ix : List Nat}, ix.length = sl.length → ∀ s ∈ sl, ∃ p ∈ zipP ix sl, p.2.1 = s.a ∧ ∀ o, p.2.2 o = s.o
  | [], _, _, _, h => nomatch h
  | s :: sl, [], h, _, _ => nomatch h
  | s :: sl, i :: ix, h, x, hx => by
    rcases List.mem_cons.mp hx with rfl | hx
    · exact ⟨(i, x.a, fun _ => x.o), .head _, rfl, fun _ => rfl⟩
    · obtain ⟨p, hp, r⟩ := zipP_mem (Nat.succ.inj h) x hx
      exact ⟨p, .tail _ hp, r⟩
theorem updP_map (ix : List Nat) (sl : List Slot) (o : Nat → Obj) : ∀ l : List Nat, (updP ix sl o l).map (fun p => (p.1, p.2.1)) = l.map fun j => (natAt ix j, adAt sl j)
  | [] => rfl
  | j :: l => by show (_, _) :: (updP ix sl o l).map _ = _; rw [updP_map ix sl o l]; rfl
theorem updP_mem {ix : List Nat} {sl : List Slot} {o : Nat → Obj} : ∀ {l : List Nat} {p}, p ∈ updP ix sl o l → ∃ j ∈ l, p.2.1 = adAt sl j ∧ ∀ x, p.2.2 x = o j
  | [], _, h => nomatch h
  | j :: l, p, h => by
    rcases List.mem_cons.mp h with rfl | h
    · exact ⟨j, .head _, rfl, fun _ => rfl⟩
    · obtain ⟨i, hi, r⟩ := updP_mem h
      exact ⟨i, .tail _ hi, r⟩
theorem upsP_mem {sl : List Slot} {o : Nat → Obj} : ∀ {l : List Nat} {j : Nat}, j ∈ l → (adAt sl j, o j) ∈ upsP sl o l
  | [], _, h => nomatch h
  | i :: l, j, h => by
    rcases List.mem_cons.mp h with rfl | h
    · exact .head _
    · exact .tail _ (upsP_mem h)
theorem natAt_get : ∀ {l : List Nat} {j : Nat}, j < l.length → l[j]? = some (natAt l j)
  | [], _, h => absurd h (Nat.not_lt_zero _)
  | _ :: _, 0, _ => rfl
  | _ :: l, j + 1, h => natAt_get (l := l) (j := j) (Nat.lt_of_succ_lt_succ h)
theorem natAt_inj {l : List Nat} {i j : Nat} (nd : l.Nodup) (hi : i < l.length) (hj : j < l.length) (e : natAt l i = natAt l j) : i = j := by
  have h1 := natAt_get hi
  have h2 := natAt_get hj
  rw [e, ← h2] at h1
  exact (List.getElem?_inj hi nd).mp h1
theorem adAt_mem : ∀ {l : List Slot} {j : Nat}, j < l.length → ∃ s ∈ l, s.a = adAt l j
  | [], _, h => absurd h (Nat.not_lt_zero _)
  | s :: _, 0, _ => ⟨s, .head _, rfl⟩
  | _ :: l, j + 1, h => let ⟨s, hs, e⟩ := adAt_mem (l := l) (j := j) (Nat.lt_of_succ_lt_succ h); ⟨s, .tail _ hs, e⟩
theorem ixs_nodup {ix : List Nat} (nd : ix.Nodup) : ∀ {l : List Nat}, l.Nodup → (∀ j ∈ l, j < ix.length) → (l.map (natAt ix)).Nodup
  | [], _, _ => .nil
  | i :: l, h, k => by
    have h' := List.nodup_cons.mp h
    refine List.nodup_cons.mpr ⟨fun hm => ?_, ixs_nodup nd h'.2 fun j hj => k j (.tail _ hj)⟩
    obtain ⟨j, hj, e⟩ := List.mem_map.mp hm
    exact h'.1 (natAt_inj nd (k j (.tail _ hj)) (k i (.head _)) e ▸ hj)

structure Good (C : Cn) : Prop where
  un : C.upi.Nodup
  ul : ∀ j ∈ C.upi, j < C.sl.length
structure IxOk (C : Cn) (ix : List Nat) : Prop where
  nd : ix.Nodup
  len : ix.length = C.sl.length
noncomputable def Cn.mu (C : Cn) : List Addr := C.upi.map (adAt C.sl)
theorem node_ofF {P : Par} {Dv Uv : Nat} {C : Cn} (G : Good C) {ix : List Nat} (I : IxOk C ix)
    (H : ∀ (f : Nat → Nat) (A : Around) (h : Heap) (g : Array GenState) (d : Drawn) (tk : Nat) (os : OsState) (R : Result → Shared → Prop), A.handled = none → A.depth + Dv + C.D ≤ recursionLimit → A.units + Uv + C.U ≤ cLine →
      CtrIn P.kt C.mu h → (∀ s ∈ C.sl, h.get? s.a = some s.o) → (C.sl.map (·.a)).Nodup → (∀ p ∈ C.pf, p.2.P h ∧ p.2.Stable ∧ p.2.hi ≤ h.objs.size) → (∀ l, C.fl = some l → ∃ es, A.frames = some es ∧ envAds es = some l) → (∀ a, C.zq = some a → h.objs.size = a + 1) → (∀ x h', Post (C.spec ix x) h h' → R (C.res x.2.2) ⟨h', g, d, x.2.1, os⟩) → codeAny (model P.prog P.w) A (C.co f) R ⟨h, g, d, tk, os⟩) :
    Node P Dv Uv XT (C.spec ix) where
  ne := ⟨(0, 0, fun _ => 0)⟩
  same := by
    refine ⟨fun c => C.co (tokAt c), zipP ix C.sl, C.D, C.U, C.upi.map fun j => (natAt ix j, adAt C.sl j), C.pf, C.fl, C.zq, by rw [zipP_ix I.len]; exact I.nd, ?_, fun x => ⟨rfl, rfl, rfl, rfl, rfl, rfl, rfl, updP_map ..⟩, ?_⟩
    · rw [List.map_map]
      exact ixs_nodup I.nd G.un fun j hj => I.len ▸ G.ul j hj
    · intro c A h g d tk os R ec hA hD hU hC hp hn _ hpf hfl hzq hR
      have em : (C.upi.map fun j => (natAt ix j, adAt C.sl j)).map (·.2) = C.mu := by rw [List.map_map]; rfl
      rw [em] at hC
      rw [ec]
      refine H _ A h g d tk os R hA hD hU hC (fun s hs => ?_) (by rw [← zipP_ad I.len]; exact hn) hpf hfl hzq hR
      obtain ⟨p, hm, e1, e2⟩ := zipP_mem I.len s hs
      obtain ⟨o, ho, eo⟩ := hp p hm
      rw [← e1, ho, eo, e2]
theorem node_of {P : Par} {Dv Uv : Nat} {C : Cn} (G : Good C) {ix : List Nat} (I : IxOk C ix)
    (H : ∀ (f : Nat → Nat) (A : Around) (h : Heap) (g : Array GenState) (d : Drawn) (tk : Nat) (os : OsState) (R : Result → Shared → Prop), A.handled = none → A.depth + Dv + C.D ≤ recursionLimit → A.units + Uv + C.U ≤ cLine →
      CtrIn P.kt C.mu h → (∀ s ∈ C.sl, h.get? s.a = some s.o) → (C.sl.map (·.a)).Nodup → (∀ x h', Post (C.spec ix x) h h' → R (C.res x.2.2) ⟨h', g, d, x.2.1, os⟩) → codeAny (model P.prog P.w) A (C.co f) R ⟨h, g, d, tk, os⟩) :
    Node P Dv Uv XT (C.spec ix) := node_ofF G I fun f A h g d tk os R a1 a2 a3 a4 a5 a6 _ _ _ a8 => H f A h g d tk os R a1 a2 a3 a4 a5 a6 a8
theorem Node.du {w : World} {b : Bool} {D U D' U' Dv Uv : Nat} {X : Type} {s : X → CSpec} (n : Node (par w b D U) Dv Uv X s) : Node (par w b D' U') Dv Uv X s := ⟨n.ne, n.same⟩

theorem kt2 (P : Params) : (ktOf P).get cStatics = some (o2 P) := by rfl'
noncomputable def memB (n : Nat) (l : List Nat) : Bool := @List.rec Nat (fun _ => Bool) false (fun i _ ih => match Nat.beq n i with | true => true | false => ih) l
noncomputable def ndB (l : List Nat) : Bool := @List.rec Nat (fun _ => Bool) true (fun i l ih => match memB i l with | true => false | false => ih) l
noncomputable def lenN (l : List Nat) : Nat := @List.rec Nat (fun _ => Nat) 0 (fun _ _ ih => Nat.succ ih) l
noncomputable def uB (up : List Nat) (l : List Slot) : Nat → Bool := @List.rec Slot (fun _ => Nat → Bool) (fun _ => true) (fun s _ ih i => match s.u with | true => (match memB i up with | true => ih (Nat.succ i) | false => false) | false => ih (Nat.succ i)) l
theorem memB_iff {n : Nat} : ∀ {l : List Nat}, memB n l = true ↔ n ∈ l
  | [] => ⟨fun h => (nomatch h), fun h => (nomatch h)⟩
  | i :: l => by
    show (match Nat.beq n i with | true => true | false => memB n l) = true ↔ _
    cases q : Nat.beq n i with
    | true => exact ⟨fun _ => Nat.eq_of_beq_eq_true q ▸ .head _, fun _ => rfl⟩
    | false => exact ⟨fun h => .tail _ (memB_iff.mp h), fun h => by
        rcases List.mem_cons.mp h with rfl | h
        · rw [Nat.beq_refl] at q; cases q
        · exact memB_iff.mpr h⟩
theorem ndB_nd : ∀ {l : List Nat}, ndB l = true → l.Nodup
  | [], _ => .nil
  | i :: l, h => by
    have h' : (match memB i l with | true => false | false => ndB l) = true := h
    cases q : memB i l with
    | true => rw [q] at h'; cases h'
    | false => rw [q] at h'; exact List.nodup_cons.mpr ⟨fun hm => (by rw [memB_iff.mpr hm] at q; cases q), ndB_nd h'⟩
theorem lenN_eq : ∀ l : List Nat, lenN l = l.length
  | [] => rfl
  | _ :: l => congrArg Nat.succ (lenN_eq l)
theorem uB_mem {up : List Nat} : ∀ {l : List Slot} {i : Nat}, uB up l i = true → ∀ s ∈ l, s.u = true → ∃ j, i + j ∈ up ∧ adAt l j = s.a
  | [], _, _, _, h, _ => nomatch h
  | x :: l, i, e, s, h, hu => by
    have e' : (match x.u with | true => (match memB i up with | true => uB up l (Nat.succ i) | false => false) | false => uB up l (Nat.succ i)) = true := e
    have tail : uB up l (Nat.succ i) = true := by
      cases q : x.u with
      | false => rw [q] at e'; exact e'
      | true =>
        rw [q] at e'
        cases q2 : memB i up with
        | false => simp only [q2] at e'; cases e'
        | true => simp only [q2] at e'; exact e'
    rcases List.mem_cons.mp h with rfl | h
    · rw [hu] at e'
      cases q2 : memB i up with
      | false => simp only [q2] at e'; cases e'
      | true => exact ⟨0, memB_iff.mp q2, rfl⟩
    · obtain ⟨j, hj, ej⟩ := uB_mem tail s h hu
      exact ⟨j + 1, by rw [Nat.add_succ, ← Nat.succ_add]; exact hj, ej⟩
noncomputable def chk (C : Cn) : Bool := match ndB C.upi with
  | true => (match allLt (lenL C.sl) C.upi with
    | true => uB C.upi C.sl 0
    | false => false)
  | false => false
theorem chk_good {C : Cn} (h : chk C = true) : Good C ∧ ∀ s ∈ C.sl, s.u = true → s.a ∈ C.mu := by
  unfold chk at h
  cases q1 : ndB C.upi with
  | false => simp only [q1] at h; cases h
  | true =>
    cases q2 : allLt (lenL C.sl) C.upi with
    | false => simp only [q1, q2] at h; cases h
    | true =>
      simp only [q1, q2] at h
      refine ⟨⟨ndB_nd q1, fun j hj => lenL_eq C.sl ▸ allLt_mem q2 j hj⟩, fun s hs hu => ?_⟩
      obtain ⟨j, hj, ej⟩ := uB_mem h s hs hu
      rw [Nat.zero_add] at hj
      exact List.mem_map.mpr ⟨j, hj, ej⟩
noncomputable def chkI (C : Cn) (ix : List Nat) : Bool := match ndB ix with
  | true => Nat.beq (lenN ix) (lenL C.sl)
  | false => false
theorem ixOk {C : Cn} {ix : List Nat} (h : chkI C ix = true) : IxOk C ix := by
  unfold chkI at h
  cases q1 : ndB ix with
  | false => simp only [q1] at h; cases h
  | true =>
    simp only [q1] at h
    have := Nat.eq_of_beq_eq_true h
    rw [lenN_eq, lenL_eq] at this
    exact ⟨ndB_nd q1, this⟩
abbrev RunC (w : World) (b : Bool) (f : Nat → Nat) (B T : Nat) (C : Cn) (ids nids : List Nat) (n ks : Nat) (l : List CSpec) (y : Nat → Nat) : Prop :=
  RunEq C.sl.length ids nids (goT (par w b C.D C.U) n (C.co f) ks l ⟨C.sl, B, T, []⟩) (C.res y) (upsP C.sl (C.upo y) C.upi) (C.add y) []
theorem node_run {w : World} {b : Bool} {C : Cn} (ok : chk C = true) {ix : List Nat} (I : IxOk C ix) (ids nids : List Nat) (n ks : Nat) (hn : ndB nids = true) (hp : C.pu = false) (hf : ∀ y, C.fs y = fun _ => [])
    (T : (Nat → Nat) → Nat → Nat → Tele) (v : ∀ f B t, ValidT (par w b C.D C.U) 0 0 (T f B t))
    (run : ∀ f B t, AllT (T f B t) fun l => ∃ y, RunC w b f B t C ids nids n ks l y) :
    Node (par w b 0 0) 0 0 XT (C.spec ix) := by
  obtain ⟨G, hu⟩ := chk_good ok
  refine node_of G I fun f A h g d tk os R hA hD hU hC own nd hR => ?_
  have hcs : cStatics ∉ C.mu := (hC.top _ _ (kt2 _)).2
  refine by_go (P := par w b C.D C.U) (Dv := 0) (Uv := 0) (mu := C.mu) (T f h.objs.size tk) n ks C.sl [] (fun _ h => nomatch h) hA hD hU ⟨hC.1, hC.2⟩ own nd hu hcs (fun h => nomatch h) (v ..) ?_
  refine (run f h.objs.size tk).mono fun l ⟨y, e⟩ => ends_of (ids := ids) (nids := nids) (r := C.res y) (ups := upsP C.sl (C.upo y) C.upi) (adds := C.add y) (fs := []) (k := C.sl.length) (by rw [goT_eq]; exact e) (List.length_map ..) (ndB_nd hn) fun h' tk' F => ?_
  refine hR (h'.objs.size, tk', y) h' ⟨fun b o e1 e2 => F.keep b o e1 fun hm => ?_, by show _ = szOf C.pu _ _; rw [hp]; rfl, F.grow, fun p hp o _ => ?_, F.add, F.nd, fun F' hF' => ?_⟩
  · obtain ⟨j, hj, rfl⟩ := List.mem_map.mp hm
    have hm2 : (natAt ix j, adAt C.sl j) ∈ (updP ix C.sl (C.upo y) C.upi).map (fun p => (p.1, p.2.1)) := by rw [updP_map]; exact List.mem_map.mpr ⟨j, hj, rfl⟩
    obtain ⟨p, hp, ep⟩ := List.mem_map.mp hm2
    exact e2 p hp (Prod.mk.inj ep).2.symm
  · obtain ⟨j, hj, ea, eo⟩ := updP_mem (ix := ix) (sl := C.sl) (o := C.upo y) hp
    rw [ea, eo]
    exact F.own _ (upsP_mem hj)
  · have : F' ∈ C.fs y h'.objs.size := hF'
    rw [hf] at this
    cases this
theorem Node.weak {P : Par} {Dv Uv : Nat} {C C' : Cn} {ix : List Nat} (n : Node P Dv Uv XT (C.spec ix)) (e : C'.co = C.co ∧ C'.sl = C.sl ∧ C'.upi = C.upi ∧ C'.D = C.D ∧ C'.U = C.U ∧ C'.pf = C.pf ∧ C'.fl = C.fl ∧ C'.zq = C.zq)
    (H : ∀ x h h', Post (C.spec ix x) h h' → ∃ x', x'.2.1 = x.2.1 ∧ C'.res x'.2.2 = C.res x.2.2 ∧ Post (C'.spec ix x') h h') : Node P Dv Uv XT (C'.spec ix) where
  ne := n.ne
  same := by
    obtain ⟨code, pre, dl, ul, um, pf, fl, zq, a1, a2, a3, a4⟩ := n.same
    refine ⟨code, pre, dl, ul, um, pf, fl, zq, a1, a2, fun x => ?_, fun c A h g d tk os R b1 b2 b3 b4 b5 b6 b7 b8 b9 b10 b11 hR => a4 c A h g d tk os R b1 b2 b3 b4 b5 b6 b7 b8 b9 b10 b11 fun x h' q => ?_⟩
    · obtain ⟨c1, c2, c3, c4, c5, c7, c8, c6⟩ := a3 x
      obtain ⟨d1, d2, d3, d4, d5, d6, d7, d8⟩ := e
      refine ⟨?_, ?_, ?_, ?_, ?_, ?_, ?_, ?_⟩
      · rw [← c1]; show (fun c => C'.co (tokAt c)) = (fun c => C.co (tokAt c)); rw [d1]
      · rw [← c2]; show zipP ix C'.sl = zipP ix C.sl; rw [d2]
      · rw [← c3]; exact d4
      · rw [← c4]; exact d5
      · rw [← c5]; exact d6
      · rw [← c7]; exact d7
      · rw [← c8]; exact d8
      · rw [← c6]
        show (updP ix C'.sl (C'.upo x.2.2) C'.upi).map (fun p => (p.1, p.2.1)) = (updP ix C.sl (C.upo x.2.2) C.upi).map (fun p => (p.1, p.2.1))
        rw [updP_map, updP_map, d2, d3]
    · obtain ⟨x', e1, e2, q'⟩ := H x h h' q
      have z := hR x' h' q'
      have z' : R (C'.res x'.2.2) ⟨h', g, d, x'.2.1, os⟩ := z
      rw [e1, e2] at z'
      exact z'
abbrev Nd (w : World) (b : Bool) (C : Cn) : Prop := ∀ {ix : List Nat}, IxOk C ix → Node (par w b 0 0) 0 0 XT (C.spec ix)
structure VT (P : Par) (Dv Uv : Nat) where
  T : Tele
  v : ValidT P Dv Uv T
abbrev ve {P : Par} {Dv Uv : Nat} : VT P Dv Uv := ⟨.nil, trivial⟩
noncomputable def vc {w : World} {b : Bool} {D U : Nat} (C : Cn) (ix : List Nat) (h : Nd w b C) (e : chkI C ix = true) (r : XT → VT (par w b D U) 0 0) : VT (par w b D U) 0 0 := ⟨.cons XT (C.spec ix) fun x => (r x).T, Node.du (h (ixOk e)), fun x => (r x).v⟩
theorem nr {w : World} {b : Bool} {C : Cn} (ids nids : List Nat) (n ks : Nat) (V : (Nat → Nat) → Nat → Nat → VT (par w b C.D C.U) 0 0) (run : ∀ f B t, AllT (V f B t).T fun l => ∃ y, RunC w b f B t C ids nids n ks l y) (ok : chk C = true := by rfl') (hn : ndB nids = true := by rfl') (hp : C.pu = false := by exact rfl) (hf : ∀ y, C.fs y = fun _ => [] := by exact fun _ => rfl) : Nd w b C := fun {ix} I => node_run ok I ids nids n ks hn hp hf (fun f B t => (V f B t).T) (fun f B t => (V f B t).v) run
noncomputable def inst (C d : Addr) : Obj := { cls := .ref C, dict := some d, data := .plain }
noncomputable def dFl (P : Params) : List (String × (Nat → Value)) → (Nat → Nat) → (Nat → Nat) → Nat → List DictEntry
  | [], _, _, _ => []
  | (n, f) :: l, k, v, i => ⟨PyData.keyHash P (Z n), .str (Z n) (k i), f (v i)⟩ :: dFl P l k v (i + 1)
noncomputable def dF (P : Params) (l : List (String × (Nat → Value))) (k v : Nat → Nat) : Obj := { cls := .type "dict", data := .dict (dFl P l k v 0).toArray l.length }
noncomputable def tokL (kd vl : Str) (ln : Int) (beh : Bool) (st en : Int) (pl : Bool) : List (String × (Nat → Value)) :=
  [("kind", fun t => .str kd t), ("value", fun t => .str vl t), ("line", fun t => .int ln t), ("is_behind_line", fun _ => .bool beh), ("start", fun t => .int st t), ("end", fun t => .int en t), ("is_octal", fun _ => .bool false), ("is_plain", fun _ => .bool pl)]
noncomputable def parL (l t j pe : Addr) (n : Int) : List (String × (Nat → Value)) :=
  [("lexer", fun _ => .ref l), ("token", fun _ => .ref t), ("later", fun _ => .none), ("is_strict", fun _ => .bool false), ("depth", fun t => .int 0 t), ("nested", fun t => .int n t), ("jumps", fun _ => .ref j), ("pending", fun _ => .ref pe)]
noncomputable def lexL (tx : Str) (at_ : Int) (ln : Int) : List (String × (Nat → Value)) := [("text", fun t => .str tx t), ("at", fun t => .int at_ t), ("line", fun t => .int ln t)]
noncomputable abbrev okV (v : Value) : Result := .ok (.ret v)

section
variable {prog : Program} {w : World} {A : Around} {s : Shared} {R : Result → Shared → Prop}
theorem code_slot {T : String} {name : Str} {id : String} {B : Builtin} {self : Value} {rest : List Value} {m : Made} (slot : PySem.Slot T name id) (hT : s.TypeIs self T)
    (entry : entryFor table id = some B) (args : argsOk id ⟨self :: rest, []⟩) (g : Gives (B ⟨self :: rest, []⟩) m) (h : m.post (fun v s' => R (.ok (.ret v)) s') s) :
    codeAny (model prog w) A (.call (.builtin id) ⟨self :: rest, []⟩) R s :=
  codeAny_call_builtin slot.plain entry (slot.check _ _ _ _ _ _ _ _ hT args (g prog w A R s h))
theorem code_str_eq {x y : Str} {t u : Tok} (h : R (.ok (.ret (.bool (x.cps.toList == y.cps.toList)))) s) : codeAny (model prog w) A (.call (.builtin "str.__eq__") ⟨[.str x t, .str y u], []⟩) R s :=
  code_slot PySem.F.slot_str_eq (typeIs_str s x t) PySem.F.entry_str_eq (PySem.F.args_str_eq_2 _ _) (gives_str_eq x y t u) h
theorem code_getitem {x : Str} {i : Int} {c : Nat} {t u : Tok} (hr : (decide (i < -(2 ^ 63 : Int)) || decide (i ≥ 2 ^ 63)) = false) (hc : (seqIndex? i x.length).bind (x.cps[·]?) = some c)
    (h : R (.ok (.ret (.str ⟨#[c]⟩ s.toks))) { s with toks := s.toks + 1 }) : codeAny (model prog w) A (.call (.builtin "str.__getitem__") ⟨[.str x t, .int i u], []⟩) R s :=
  code_slot PySem.F.slot_str_getitem (typeIs_str s x t) PySem.F.entry_str_getitem (PySem.F.args_str_getitem_2 _ _) (gives_str_getitem x i t u c hr hc) ⟨(by show 1 ≤ sizeLine; decide), h⟩
theorem code_lt {a b : Int} {t u : Tok} (h : R (.ok (.ret (.bool (decide (a < b))))) s) : codeAny (model prog w) A (.call (.builtin "int.__lt__") ⟨[.int a t, .int b u], []⟩) R s :=
  code_slot PySem.F.slot_int_lt (typeIs_int s a t) PySem.F.entry_int_lt (PySem.F.args_int_lt_2 _ _) (gives_int_lt a b t u) h
theorem code_le {a b : Int} {t u : Tok} (h : R (.ok (.ret (.bool (decide (a ≤ b))))) s) : codeAny (model prog w) A (.call (.builtin "int.__le__") ⟨[.int a t, .int b u], []⟩) R s :=
  code_slot PySem.F.slot_int_le (typeIs_int s a t) PySem.F.entry_int_le (PySem.F.args_int_le_2 _ _) (gives_int_le a b t u) h
theorem code_gt {a b : Int} {t u : Tok} (h : R (.ok (.ret (.bool (decide (a > b))))) s) : codeAny (model prog w) A (.call (.builtin "int.__gt__") ⟨[.int a t, .int b u], []⟩) R s :=
  code_slot PySem.F.slot_int_gt (typeIs_int s a t) PySem.F.entry_int_gt (PySem.F.args_int_gt_2 _ _) (gives_int_gt a b t u) h
theorem code_startsw {x y : Str} {i : Int} {t u v : Tok} (h : R (.ok (.ret (.bool (decide (PySem.fromIndex x.length i + y.length ≤ x.length) && PySem.Builtin.Str.subAt x y (PySem.fromIndex x.length i))))) s) :
    codeAny (model prog w) A (.call (.builtin "str.startswith") ⟨[.str x t, .str y u, .int i v], []⟩) R s :=
  code_slot PySem.F.slot_str_startswith (typeIs_str s x t) PySem.F.entry_str_startswith (PySem.F.args_str_startswith_3 _ _ _) (PySem.gives_str_startswith_from x y i t u v) h
theorem code_function {id : String} {b : Builtin} {args : List Value} (hk : builtinKind id = none) (hp : plainId id = true) (hb : entryFor table id = some b) (ha : argsOk id ⟨args, []⟩)
    (hc : wpAny (model prog w) A.in1 (b ⟨args, []⟩) (fun fin s' => ∃ f, fin = .done f ∧ R (.ok f) s') (fun e s' => R (.error e) s') s) : codeAny (model prog w) A (.call (.builtin id) ⟨args, []⟩) R s := by
  refine codeAny_call_builtin hp hb ?_
  have hfin := wpAny_mono hc (Q' := fun fin s' => match fin with
      | .done f => R (.ok f) s'
      | .again c' => c'.quiet = true ∧ codeAny (model prog w) A c' R s')
    (fun fin s' h' => by obtain ⟨v, rfl, hv⟩ := h'; exact hv) fun _ _ h' => h'
  simp only [checkBuiltinCall, hk]
  cases hsig : Manifest.signature? id with
  | none => exact wpAny_pure hfin
  | some sig =>
    simp only [argsOk, hsig] at ha
    have h2 : Bind.checkArgs id sig ⟨args, []⟩ = pure () := ha
    show wpAny _ A.in1 (Bind.checkArgs id sig ⟨args, []⟩) _ _ s
    rw [h2]
    exact wpAny_pure hfin
theorem code_len {T id : String} {B : Builtin} {v : Value} {n : Int} (hT : s.TypeIs v T) (slot : PySem.Slot T "__len__" id)
    (entry : entryFor table id = some B) (args : argsOk id ⟨[v], []⟩) (g : Gives (B ⟨[v], []⟩) (.int n)) (h0 : ¬ n < 0) (hfit : ¬ n ≥ 2 ^ 63)
    (h : R (.ok (.ret (.int n (s.toks + 1)))) { s with toks := s.toks + 1 + 1 }) : codeAny (model prog w) A (.call (.builtin "len") ⟨[v], []⟩) R s := by
  refine code_function kind_len plain_len entry_len (args_len1 _) ?_
  unfold Builtin.«len»
  refine wpAny_bind (m := oneArg "len" _) (wpAny_pure ?_)
  refine wpAny_bind (m := callSpecial? v (Z "__len__")) (wpAny_callSpecial?_slot (name := Z "__len__") hT slot (call_gives slot hT entry args g ?_))
  show wpAny _ _ _ _ _ { s with toks := s.toks + 1 }
  refine wpAny_bind (wpAny_holding (wpAny_pure ?_))
  refine wpAny_bind (wpAny_letGo ?_)
  show wpAny _ _ (if n < 0 then _ else _) _ _ _
  rw [if_neg h0]
  show wpAny _ _ (if n ≥ 2 ^ 63 then _ else _) _ _ _
  rw [if_neg hfit]
  exact wpAny_bind (wpAny_mkInt (wpAny_pure ⟨_, rfl, h⟩))
theorem code_len_str {x : Str} {t : Tok} (hx : x.length < 2 ^ 63) (h : R (.ok (.ret (.int x.length (s.toks + 1)))) { s with toks := s.toks + 1 + 1 }) : codeAny (model prog w) A (.call (.builtin "len") ⟨[.str x t], []⟩) R s :=
  code_len (typeIs_str s x t) PySem.F.slot_str_len PySem.F.entry_str_len (PySem.F.args_str_len_1 _) (gives_str_len x t) (by omega) (by omega) h
end
theorem node_pure {P : Par} {C : Cn} {ix : List Nat} (G : Good C) (I : IxOk C ix) (hp : C.pu = true) (hu : C.upi = []) (ha : ∀ y, C.add y = []) (hf : ∀ y, C.fs y = fun _ => [])
    (H : ∀ (f : Nat → Nat) (A : Around) (s : Shared) (R : Result → Shared → Prop), (∀ a o, P.kt.get a = some o → s.heap.get? a = some o) → (∀ x ∈ C.sl, s.heap.get? x.a = some x.o) → (∀ y tk, R (C.res y) { s with toks := tk }) → codeAny (model P.prog P.w) A (C.co f) R s) : Node P 0 0 XT (C.spec ix) := by
  refine node_of G I fun f A h g d tk os R _ _ _ hC own _ hR => ?_
  refine H f A ⟨h, g, d, tk, os⟩ R (fun a o e => (hC.top a o e).1) own fun y tk' => hR (0, tk', y) h ⟨fun _ _ e _ => e, by show _ = szOf C.pu _ _; rw [hp]; rfl, Nat.le_refl _, fun p hp => ?_, fun p hp => ?_, ?_, fun F hF => ?_⟩
  · have : p ∈ updP ix C.sl (C.upo y) C.upi := hp
    rw [hu] at this; cases this
  · have : p ∈ C.add y := hp
    rw [ha] at this; cases this
  · show ((C.add y).map (·.1)).Nodup
    rw [ha]; exact .nil
  · have : F ∈ C.fs y 0 := hF
    rw [hf] at this; cases this
noncomputable abbrev bcall (id : String) (l : List Value) : Code := .call (.builtin id) ⟨l, []⟩
noncomputable abbrev fcall (a : Addr) (l : List Value) : Code := .call (.ref a) ⟨l, []⟩
noncomputable def cVal (co : (Nat → Nat) → Code) (r : (Nat → Nat) → Value) : Cn := { co, sl := [], res := fun y => okV (r y), pu := true, D := 0, U := 0 }
theorem n_val {w : World} {b : Bool} {co : (Nat → Nat) → Code} {r : (Nat → Nat) → Value} {ix : List Nat} (I : IxOk (cVal co r) ix)
    (H : ∀ (f : Nat → Nat) (A : Around) (s : Shared) (R : Result → Shared → Prop), (∀ y tk, R (okV (r y)) { s with toks := tk }) → codeAny (model pw (w.withFollow rowG b)) A (co f) R s) : Node (par w b 0 0) 0 0 XT ((cVal co r).spec ix) :=
  node_pure ⟨.nil, fun _ h => nomatch h⟩ I rfl rfl (fun _ => rfl) (fun _ => rfl) fun f A s R _ _ hR => H f A s R hR
noncomputable def cStrEq (x y : Str) (v : Bool) : Cn := cVal (fun f => bcall "str.__eq__" [.str x (f 0), .str y (f 1)]) fun _ => .bool v
noncomputable def cLt (x y : Int) (v : Bool) : Cn := cVal (fun f => bcall "int.__lt__" [.int x (f 0), .int y (f 1)]) fun _ => .bool v
noncomputable def cLe (x y : Int) (v : Bool) : Cn := cVal (fun f => bcall "int.__le__" [.int x (f 0), .int y (f 1)]) fun _ => .bool v
noncomputable def cGt (x y : Int) (v : Bool) : Cn := cVal (fun f => bcall "int.__gt__" [.int x (f 0), .int y (f 1)]) fun _ => .bool v
noncomputable def cLen (x : Str) : Cn := cVal (fun f => bcall "len" [.str x (f 0)]) fun y => .int x.length (y 0)
noncomputable def cItem (x : Str) (i : Int) (c : Nat) : Cn := cVal (fun f => bcall "str.__getitem__" [.str x (f 0), .int i (f 1)]) fun y => .str ⟨#[c]⟩ (y 0)
noncomputable def cSW (x z : Str) (i : Int) (v : Bool) : Cn := cVal (fun f => bcall "str.startswith" [.str x (f 0), .str z (f 1), .int i (f 2)]) fun _ => .bool v
section
variable (w : World) (b : Bool) {ix : List Nat}
theorem n_str_eq (x y : Str) (v : Bool) (h : (x.cps.toList == y.cps.toList) = v) (I : IxOk (cStrEq x y v) ix) : Node (par w b 0 0) 0 0 XT ((cStrEq x y v).spec ix) :=
  n_val I fun f A s R hR => code_str_eq (h ▸ hR (fun _ => 0) s.toks)
theorem n_lt (x y : Int) (v : Bool) (h : decide (x < y) = v) (I : IxOk (cLt x y v) ix) : Node (par w b 0 0) 0 0 XT ((cLt x y v).spec ix) := n_val I fun f A s R hR => code_lt (h ▸ hR (fun _ => 0) s.toks)
theorem n_le (x y : Int) (v : Bool) (h : decide (x ≤ y) = v) (I : IxOk (cLe x y v) ix) : Node (par w b 0 0) 0 0 XT ((cLe x y v).spec ix) := n_val I fun f A s R hR => code_le (h ▸ hR (fun _ => 0) s.toks)
theorem n_gt (x y : Int) (v : Bool) (h : decide (x > y) = v) (I : IxOk (cGt x y v) ix) : Node (par w b 0 0) 0 0 XT ((cGt x y v).spec ix) := n_val I fun f A s R hR => code_gt (h ▸ hR (fun _ => 0) s.toks)
theorem n_len (x : Str) (h : x.length < 2 ^ 63) (I : IxOk (cLen x) ix) : Node (par w b 0 0) 0 0 XT ((cLen x).spec ix) := n_val I fun f A s R hR => code_len_str h (hR (fun _ => s.toks + 1) _)
theorem n_item (x : Str) (i : Int) (c : Nat) (h : (decide (i < -(2 ^ 63 : Int)) || decide (i ≥ 2 ^ 63)) = false) (hc : (seqIndex? i x.length).bind (x.cps[·]?) = some c) (I : IxOk (cItem x i c) ix) : Node (par w b 0 0) 0 0 XT ((cItem x i c).spec ix) :=
  n_val I fun f A s R hR => code_getitem h hc (hR (fun _ => s.toks) _)
theorem n_sw (x z : Str) (i : Int) (v : Bool) (h : (decide (PySem.fromIndex x.length i + z.length ≤ x.length) && PySem.Builtin.Str.subAt x z (PySem.fromIndex x.length i)) = v) (I : IxOk (cSW x z i v) ix) : Node (par w b 0 0) 0 0 XT ((cSW x z i v).spec ix) :=
  n_val I fun f A s R hR => code_startsw (h ▸ hR (fun _ => 0) s.toks)
end
structure At (tx : Str) (i : Nat) (c : Nat) : Prop where
  get : tx.cps.toList[i]? = some c
  small : tx.length < 2 ^ 63
structure Off (tx : Str) (i : Nat) : Prop where
  get : i = tx.length
  small : tx.length < 2 ^ 63
noncomputable def cAt (tx : Str) (i : Nat) (c : Int) : Cn := { co := fun f => fcall 197 [.str tx (f 0), .int i (f 1)], sl := [], res := fun y => okV (.int c (y 0)), D := 8, U := 60 }
theorem str_len (x : Str) : x.length = x.cps.toList.length := rfl
theorem At.lt {tx : Str} {i c : Nat} (h : At tx i c) : i < tx.length := by
  obtain ⟨q, _⟩ := List.getElem?_eq_some_iff.mp h.get
  exact q
theorem At.dec {tx : Str} {i c : Nat} (h : At tx i c) : decide ((i : Int) < tx.length) = true := by have := h.lt; simp only [decide_eq_true_eq]; omega
theorem Off.dec {tx : Str} {i : Nat} (h : Off tx i) : decide ((i : Int) < tx.length) = false := by have := h.get; simp only [decide_eq_false_iff_not]; omega
theorem At.rng {tx : Str} {i c : Nat} (h : At tx i c) : (decide ((i : Int) < -(2 ^ 63 : Int)) || decide ((i : Int) ≥ 2 ^ 63)) = false := by
  have := h.lt; have := h.small
  simp only [Bool.or_eq_false_iff, decide_eq_false_iff_not]
  omega
theorem At.idx {tx : Str} {i c : Nat} (h : At tx i c) : (seqIndex? (i : Int) tx.length).bind (tx.cps[·]?) = some c := by
  have h1 := h.lt
  have h2 := h.get
  have e : seqIndex? (i : Int) tx.length = some i := by
    unfold seqIndex?
    simp; omega
  rw [e]
  show tx.cps[i]? = some c
  rw [← Array.getElem?_toList]; exact h2
abbrev vcE {w : World} {b : Bool} {D U : Nat} (s t : String) (v : Bool) (h : ((Z s).cps.toList == (Z t).cps.toList) = v) (r : XT → VT (par w b D U) 0 0) : VT (par w b D U) 0 0 := vc (cStrEq (Z s) (Z t) v) [] (n_str_eq w b _ _ _ h) rfl r
theorem n_at (w b) (tx : Str) (i c : Nat) (h : At tx i c) : Nd w b (cAt tx i c) :=
  nr [] [] 45 (Kk [Kmt,Kfh,Kfh]) (fun f B T => vc (cLen tx) [] (n_len w b tx h.small) rfl fun x1 => vc (cLt i tx.length true) [] (n_lt w b _ _ _ h.dec) rfl fun x2 => vc (cItem tx i c) [] (n_item w b _ _ _ h.rng h.idx) rfl fun x3 => ve) fun f B T x1 x2 x3 => ⟨natAt [x3.2.1], by cases b <;> rfl'⟩
theorem n_off (w b) (tx : Str) (i : Nat) (h : Off tx i) : Nd w b (cAt tx i (-1)) :=
  nr [] [] 36 (Kk [Kmt,Kfh]) (fun f B T => vc (cLen tx) [] (n_len w b tx h.small) rfl fun x1 => vc (cLt i tx.length false) [] (n_lt w b _ _ _ h.dec) rfl fun x2 => ve) fun f B T x1 x2 => ⟨natAt [(x2.2.1 + 1)], by cases b <;> rfl'⟩
theorem n_top {w : World} {b : Bool} {co : (Nat → Nat) → Code} {r : (Nat → Nat) → Value} {ix : List Nat} (I : IxOk (cVal co r) ix)
    (H : ∀ (f : Nat → Nat) (A : Around) (s : Shared) (R : Result → Shared → Prop), (∀ a o, (ktOf w.params).get a = some o → s.heap.get? a = some o) → (∀ y tk, R (okV (r y)) { s with toks := tk }) → codeAny (model pw (w.withFollow rowG b)) A (co f) R s) : Node (par w b 0 0) 0 0 XT ((cVal co r).spec ix) :=
  node_pure ⟨.nil, fun _ h => nomatch h⟩ I rfl rfl (fun _ => rfl) (fun _ => rfl) fun f A s R hK _ hR => H f A s R hK hR
section
variable {prog : Program} {w : World} {A : Around} {s : Shared} {R : Result → Shared → Prop}
theorem code_meets {T : String} {name : Str} {id : String} {B : Builtin} {self : Value} {rest : List Value} {S : PySem.Spec} (slot : PySem.Slot T name id) (hT : s.TypeIs self T)
    (entry : entryFor table id = some B) (args : argsOk id ⟨self :: rest, []⟩) (g : MeetsIn prog w (B ⟨self :: rest, []⟩) S) (h : S A R s) :
    codeAny (model prog w) A (.call (.builtin id) ⟨self :: rest, []⟩) R s :=
  codeAny_call_builtin slot.plain entry (slot.check _ _ _ _ _ _ _ _ hT args (g A R s h))
end
noncomputable def isI (c : Int) : Value → Bool
  | .int a _ => a == c
  | _ => false
noncomputable def isS (c : Str) : Value → Bool
  | .str a _ => a == c
  | _ => false
noncomputable def allI (l : List Value) : Bool := @List.rec Value (fun _ => Bool) true (fun v _ ih => match v with | .int _ _ => ih | _ => false) l
noncomputable def allS (l : List Value) : Bool := @List.rec Value (fun _ => Bool) true (fun v _ ih => match v with | .str _ _ => ih | _ => false) l
noncomputable def anyB (p : Value → Bool) (l : List Value) : Bool := @List.rec Value (fun _ => Bool) false (fun v _ ih => match p v with | true => true | false => ih) l
theorem anyB_eq (p : Value → Bool) : ∀ l : List Value, anyB p l = l.any p
  | [] => rfl
  | v :: l => by
    show (match p v with | true => true | false => anyB p l) = _
    rw [List.any_cons, anyB_eq p l]
    cases p v <;> rfl
theorem allI_mem : ∀ {l : List Value}, allI l = true → ∀ v ∈ l, ∃ a t, v = .int a t
  | [], _, _, h => nomatch h
  | v :: l, e, x, h => by
    cases v with
    | int a t =>
      rcases List.mem_cons.mp h with rfl | h
      · exact ⟨a, t, rfl⟩
      · exact allI_mem (l := l) e x h
    | _ => exact absurd e (by intro q; cases q)
theorem allS_mem : ∀ {l : List Value}, allS l = true → ∀ v ∈ l, ∃ a t, v = .str a t
  | [], _, _, h => nomatch h
  | v :: l, e, x, h => by
    cases v with
    | str a t =>
      rcases List.mem_cons.mp h with rfl | h
      · exact ⟨a, t, rfl⟩
      · exact allS_mem (l := l) e x h
    | _ => exact absurd e (by intro q; cases q)
noncomputable def strsOf (l : List Value) : List Str := @List.rec Value (fun _ => List Str) [] (fun v _ ih => match v with | .str a _ => a :: ih | _ => ih) l
theorem strs_are : ∀ {l : List Value}, allS l = true → StrsAre l (strsOf l)
  | [], _ => .nil
  | v :: l, e => by
    cases v with
    | str a t => exact .cons a t (strs_are (l := l) e)
    | _ => exact absurd e (by intro q; cases q)
theorem strs_any (x : Str) : ∀ {l : List Value}, allS l = true → (strsOf l).any (· == x) = anyB (isS x) l
  | [], _ => rfl
  | v :: l, e => by
    cases v with
    | str a t =>
      show ((a == x) || (strsOf l).any (· == x)) = (match (a == x) with | true => true | false => anyB (isS x) l)
      rw [strs_any x (l := l) e]
      cases (a == x) <;> rfl
    | _ => exact absurd e (by intro q; cases q)
noncomputable def seqAt (cl : String) (K : KT) (l : Addr) : Option (List Value) := match K.get l with
  | some ⟨.type c, none, .seq ⟨items⟩ _, ⟨[]⟩⟩ => (match decide (c = cl) with | true => some items | false => none)
  | _ => none
theorem seqAt_get {cl : String} {K : KT} {l : Addr} {items : List Value} (h : seqAt cl K l = some items) : ∃ n, K.get l = some ⟨.type cl, none, .seq ⟨items⟩ n, #[]⟩ := by
  unfold seqAt at h
  split at h
  · rename_i c its n e
    cases q : decide (c = cl) with
    | false => rw [q] at h; cases h
    | true =>
      rw [q] at h
      cases h
      have := of_decide_eq_true q
      subst this
      exact ⟨n, e⟩
  · cases h
noncomputable def inI (K : KT) (l : Addr) (c : Int) : Option Bool := match seqAt "list" K l with
  | some items => (match allI items with | true => some (anyB (isI c) items) | false => none)
  | none => none
noncomputable def inS (cl : String) (K : KT) (l : Addr) (c : Str) : Option Bool := match seqAt cl K l with
  | some items => (match allS items with | true => some (anyB (isS c) items) | false => none)
  | none => none
noncomputable def cInI (l : Addr) (c : Int) (v : Bool) : Cn := cVal (fun f => bcall "list.__contains__" [.ref l, .int c (f 1)]) fun _ => .bool v
noncomputable def cInS (l : Addr) (c : Str) (v : Bool) : Cn := cVal (fun f => bcall "list.__contains__" [.ref l, .str c (f 1)]) fun _ => .bool v
noncomputable def cInT (l : Addr) (c : Str) (v : Bool) : Cn := cVal (fun f => bcall "tuple.__contains__" [.ref l, .str c (f 1)]) fun _ => .bool v
section
variable (w : World) (b : Bool) {ix : List Nat}
theorem n_inI (l : Addr) (c : Int) (v : Bool) (h : inI (ktOf w.params) l c = some v) (I : IxOk (cInI l c v) ix) : Node (par w b 0 0) 0 0 XT ((cInI l c v).spec ix) :=
  n_top I fun f A s R hK hR => by
    unfold inI at h
    cases q : seqAt "list" (ktOf w.params) l with
    | none => rw [q] at h; cases h
    | some items =>
      cases q2 : allI items with
      | false => simp only [q, q2] at h; cases h
      | true =>
        simp only [q, q2] at h
        obtain ⟨n, e⟩ := seqAt_get q
        have ho := hK _ _ e
        have hv := Option.some.inj h
        refine code_meets PySem.F.slot_list_contains ⟨_, ho, rfl⟩ PySem.F.entry_list_contains (PySem.F.args_list_contains_2 _ _) ((PySem.MeetsSeq.list_contains l ⟨items⟩ n (.int c (f 1)) (isI c) fun y hy => ?_).inModel _ _) ⟨ho, ?_⟩
        · obtain ⟨a, t, rfl⟩ := allI_mem q2 y (Array.mem_toList_iff.mpr hy)
          exact PySem.MeetsSeq.EqGives.int a c t (f 1)
        · have : (Array.mk items).any (isI c) = v := by rw [← hv, anyB_eq]; simp
          rw [this]; exact hR (fun _ => 0) s.toks
theorem n_inS (l : Addr) (c : Str) (v : Bool) (h : inS "list" (ktOf w.params) l c = some v) (I : IxOk (cInS l c v) ix) : Node (par w b 0 0) 0 0 XT ((cInS l c v).spec ix) :=
  n_top I fun f A s R hK hR => by
    unfold inS at h
    cases q : seqAt "list" (ktOf w.params) l with
    | none => rw [q] at h; cases h
    | some items =>
      cases q2 : allS items with
      | false => simp only [q, q2] at h; cases h
      | true =>
        simp only [q, q2] at h
        obtain ⟨n, e⟩ := seqAt_get q
        have ho := hK _ _ e
        have hv := Option.some.inj h
        refine code_meets PySem.F.slot_list_contains ⟨_, ho, rfl⟩ PySem.F.entry_list_contains (PySem.F.args_list_contains_2 _ _) ((PySem.MeetsSeq.list_contains l ⟨items⟩ n (.str c (f 1)) (isS c) fun y hy => ?_).inModel _ _) ⟨ho, ?_⟩
        · obtain ⟨a, t, rfl⟩ := allS_mem q2 y (Array.mem_toList_iff.mpr hy)
          exact eqGives_str a c t (f 1)
        · have : (Array.mk items).any (isS c) = v := by rw [← hv, anyB_eq]; simp
          rw [this]; exact hR (fun _ => 0) s.toks
theorem n_inT (l : Addr) (c : Str) (v : Bool) (h : inS "tuple" (ktOf w.params) l c = some v) (I : IxOk (cInT l c v) ix) : Node (par w b 0 0) 0 0 XT ((cInT l c v).spec ix) :=
  n_top I fun f A s R hK hR => by
    unfold inS at h
    cases q : seqAt "tuple" (ktOf w.params) l with
    | none => rw [q] at h; cases h
    | some items =>
      cases q2 : allS items with
      | false => simp only [q, q2] at h; cases h
      | true =>
        simp only [q, q2] at h
        obtain ⟨n, e⟩ := seqAt_get q
        have ho := hK _ _ e
        have hv := Option.some.inj h
        have it : IsTup s.heap l ⟨items⟩ := ⟨_, ho, rfl, n, rfl⟩
        refine codeAny_call_builtin PySem.F.slot_tuple_contains.plain PySem.F.entry_tuple_contains (PySem.F.slot_tuple_contains.check _ _ _ _ _ _ _ _ it.typeIs (PySem.F.args_tuple_contains_2 _ _) ?_)
        refine tuple_contains_strs it (strs_are q2) ?_
        rw [strs_any c q2, hv]
        exact hR (fun _ => 0) s.toks
end
noncomputable def strK : Value → Str
  | .str x _ => x
  | _ => ⟨#[]⟩
noncomputable def reE (P : Params) (e : DictEntry) : DictEntry := ⟨PyData.keyHash P (strK e.key), e.key, e.val⟩
noncomputable def mapE (P : Params) (l : List DictEntry) : List DictEntry := @List.rec DictEntry (fun _ => List DictEntry) [] (fun e _ ih => reE P e :: ih) l
noncomputable def allSK (l : List DictEntry) : Bool := @List.rec DictEntry (fun _ => Bool) true (fun e _ ih => match e.key with | .str _ _ => ih | _ => false) l
noncomputable def lookE (k : Str) (l : List DictEntry) : Option Value := @List.rec DictEntry (fun _ => Option Value) none (fun e _ ih => match Value.isStrOf k e.key with | true => some e.val | false => ih) l
theorem lookE_eq (k : Str) : ∀ l : List DictEntry, lookE k l = ((l.find? fun e => Value.isStrOf k e.key).map (·.val))
  | [] => rfl
  | e :: l => by
    show (match Value.isStrOf k e.key with | true => some e.val | false => lookE k l) = _
    rw [lookE_eq k l, List.find?_cons]
    cases Value.isStrOf k e.key <;> rfl
theorem mapE_mem {P : Params} : ∀ {l : List DictEntry} {e}, e ∈ mapE P l → ∃ e' ∈ l, e = reE P e'
  | [], _, h => nomatch h
  | x :: l, e, h => by
    rcases List.mem_cons.mp (show e ∈ reE P x :: mapE P l from h) with rfl | h
    · exact ⟨x, .head _, rfl⟩
    · obtain ⟨y, hy, r⟩ := mapE_mem h
      exact ⟨y, .tail _ hy, r⟩
theorem allSK_mem : ∀ {l : List DictEntry}, allSK l = true → ∀ e ∈ l, ∃ x t, e.key = .str x t
  | [], _, _, h => nomatch h
  | v :: l, q, e, h => by
    have q' : (match v.key with | .str _ _ => allSK l | _ => false) = true := q
    cases hk : v.key with
    | str a t =>
      rw [hk] at q'
      rcases List.mem_cons.mp h with rfl | h
      · exact ⟨a, t, hk⟩
      · exact allSK_mem q' e h
    | _ => rw [hk] at q'; cases q'
structure DictAt (w : World) (d : Addr) (es : List DictEntry) : Prop where
  get : ∃ n, (ktOf w.params).get d = some ⟨.type "dict", none, .dict ⟨es⟩ n, #[]⟩
  keys : allSK es = true
  hash : mapE w.params es = es
theorem DictAt.map {w : World} {b : Bool} {d : Addr} {es : List DictEntry} (D : DictAt w d es) {h : Heap} (hK : ∀ a o, (ktOf w.params).get a = some o → h.get? a = some o) : h.MapOf (strKind pw (w.withFollow rowG b)) d fun k => lookE k es := by
  obtain ⟨n, e⟩ := D.get
  refine ⟨_, ⟨es⟩, n, hK _ _ e, ⟨rfl, rfl, rfl⟩, rfl, fun x hx => ?_, fun k => ?_⟩
  · have hx' : x ∈ es := Array.mem_toList_iff.mpr hx
    rw [← D.hash] at hx'
    obtain ⟨y, hy, rfl⟩ := mapE_mem hx'
    obtain ⟨a, t, hk⟩ := allSK_mem D.keys y hy
    refine ⟨a, ?_, ?_⟩
    · show Value.isStrOf a (reE w.params y).key = true
      show Value.isStrOf a y.key = true
      rw [hk]; simp [Value.isStrOf]
    · show PyData.keyHash w.params (strK y.key) = hashStr _ a
      rw [hk]
      rfl
  · show ((Array.mk es).find? fun e => Value.isStrOf k e.key).map (·.val) = lookE k es
    rw [lookE_eq, ← Array.find?_toList]
noncomputable def cInD (d : Addr) (k : Str) (v : Bool) : Cn := cVal (fun f => bcall "dict.__contains__" [.ref d, .str k (f 1)]) fun _ => .bool v
noncomputable def cGetD (d : Addr) (k : Str) (n : Int) : Cn := cVal (fun f => bcall "dict.get" [.ref d, .str k (f 1), .int 0 (f 2)]) fun y => .int n (y 0)
section
variable (w : World) (b : Bool) {ix : List Nat}
theorem n_inD (d : Addr) (es : List DictEntry) (D : DictAt w d es) (hd : (d == sysModules) = false) (k : Str) (v : Bool) (h : (lookE k es).isSome = v) (I : IxOk (cInD d k v) ix) : Node (par w b 0 0) 0 0 XT ((cInD d k v).spec ix) :=
  n_top I fun f A s R hK hR => by
    have hm := D.map (b := b) hK
    refine code_meets PySem.F.slot_dict_contains hm.typeIs PySem.F.entry_dict_contains (PySem.F.args_dict_contains_2 _ _) (meets_dict_contains (strKind pw (w.withFollow rowG b)) d (strKind_is _ _ k (f 1)) hd) ⟨_, hm, ?_⟩
    show R (.ok (.ret (.bool (lookE k es).isSome))) _
    rw [h]; exact hR (fun _ => 0) _
noncomputable def getI (es : List DictEntry) (k : Str) : Option Int := match lookE k es with
  | none => some 0
  | some (.int a _) => some a
  | some _ => none
theorem n_getD (d : Addr) (es : List DictEntry) (D : DictAt w d es) (hd : (d == sysModules) = false) (k : Str) (n : Int) (h : getI es k = some n) (I : IxOk (cGetD d k n) ix) : Node (par w b 0 0) 0 0 XT ((cGetD d k n).spec ix) :=
  n_top I fun f A s R hK hR => by
    have hm := D.map (b := b) hK
    refine code_meets PySem.F.slot_dict_get hm.typeIs PySem.F.entry_dict_get (PySem.F.args_dict_get_3 _ _ _) (meets_dict_get_default (strKind pw (w.withFollow rowG b)) d (strKind_is _ _ k (f 1)) hd (.int 0 (f 2))) ⟨_, hm, ?_⟩
    show R (.ok (.ret ((lookE k es).getD (.int 0 (f 2))))) _
    unfold getI at h
    split at h
    · rename_i e
      rw [e]
      cases h
      exact hR (fun _ => f 2) _
    · rename_i a t e
      rw [e]
      cases h
      exact hR (fun _ => t) _
    · cases h
noncomputable def esOf (K : KT) (d : Addr) : List DictEntry := match K.get d with
  | some ⟨_, _, .dict ⟨es⟩ _, _⟩ => es
  | _ => []
theorem d302 (w : World) : DictAt w 302 (esOf (ktOf w.params) 302) := ⟨⟨48, by rfl'⟩, by rfl', by rfl'⟩
theorem d730 (w : World) : DictAt w 730 (esOf (ktOf w.params) 730) := ⟨⟨23, by rfl'⟩, by rfl', by rfl'⟩
end
noncomputable def cFn1 (lv : Nat) (a : Addr) (c : Int) (v : Bool) : Cn := { co := fun f => fcall a [.int c (f 0)], sl := [], res := fun _ => okV (.bool v), D := 8 * lv, U := 60 * lv }
abbrev cLE (c : Int) (v : Bool) : Cn := cFn1 1 105 c v
abbrev cWH (c : Int) (v : Bool) : Cn := cFn1 1 98 c v
abbrev cDG (c : Int) (v : Bool) : Cn := cFn1 1 112 c v
abbrev cIS (c : Int) (v : Bool) : Cn := cFn1 1 133 c v
abbrev cIP (c : Int) (v : Bool) : Cn := cFn1 2 140 c v
noncomputable def cKW (x : Str) (v : Bool) : Cn := { co := fun f => fcall 335 [.str x (f 0)], sl := [], res := fun _ => okV (.bool v), D := 8, U := 60 }
noncomputable def Cat (tx : Str) (j : Nat) (c : Int) : Prop := (∃ n : Nat, At tx j n ∧ c = n) ∨ (Off tx j ∧ c = -1)
theorem n_cat (w : World) (b : Bool) {tx : Str} {j : Nat} {c : Int} (h : Cat tx j c) {ix : List Nat} (I : IxOk (cAt tx j c) ix) : Node (par w b 0 0) 0 0 XT ((cAt tx j c).spec ix) := by
  rcases h with ⟨n, h, rfl⟩ | ⟨h, rfl⟩
  · exact n_at w b tx j n h I
  · exact n_off w b tx j h I
theorem n_isle (w b) (c : Int) (v : Bool) (h : inI (ktOf w.params) 44 c = some v) : Nd w b (cLE c v) :=
  nr [] [] 21 (Kk [Kfh,Kos]) (fun f B T => vc (cInI 44 c v) [] (n_inI w b 44 c v h) rfl fun x1 => ve) fun f B T x1 => ⟨natAt [], by cases b <;> rfl'⟩
theorem n_wh1 (w b) (c : Int) (h : inI (ktOf w.params) 43 c = some true) : Nd w b (cWH c true) :=
  nr [] [] 22 (Kk [Kfh,Kos]) (fun f B T => vc (cInI 43 c true) [] (n_inI w b 43 c true h) rfl fun x1 => ve) fun f B T x1 => ⟨natAt [], by cases b <;> rfl'⟩
theorem n_wh0 (w b) (c : Int) (h : inI (ktOf w.params) 43 c = some false) (h2 : decide (8192 ≤ c) = false) : Nd w b (cWH c false) :=
  nr [] [] 28 (Kk [Kfh,Kag,Kae]) (fun f B T => vc (cInI 43 c false) [] (n_inI w b 43 c false h) rfl fun x1 => vc (cLe 8192 c false) [] (n_le w b _ _ _ h2) rfl fun x2 => ve) fun f B T x1 x2 => ⟨natAt [], by cases b <;> rfl'⟩
theorem n_dg0 (w b) (c : Int) (h : decide (48 ≤ c) = false) : Nd w b (cDG c false) :=
  nr [] [] 19 0x810204000 (fun f B T => vc (cLe 48 c false) [] (n_le w b _ _ _ h) rfl fun x1 => ve) fun f B T x1 => ⟨natAt [], by cases b <;> rfl'⟩
theorem n_dg1 (w b) (c : Int) (h : decide (48 ≤ c) = true) (h2 : decide (c ≤ 57) = false) : Nd w b (cDG c false) :=
  nr [] [] 23 0x40810204000 (fun f B T => vc (cLe 48 c true) [] (n_le w b _ _ _ h) rfl fun x1 => vc (cLe c 57 false) [] (n_le w b _ _ _ h2) rfl fun x2 => ve) fun f B T x1 x2 => ⟨natAt [], by cases b <;> rfl'⟩
theorem n_is1 (w b) (c : Int) (h1 : decide (c < 128) = true) (h2 : decide (65 ≤ c) = true) (h3 : decide (c ≤ 90) = false) (h4 : decide (97 ≤ c) = true) (h5 : decide (c ≤ 122) = true) : Nd w b (cIS c true) :=
  nr [] [] 42 (Kk [Krd,Ken]) (fun f B T => vc (cLt c 128 true) [] (n_lt w b _ _ _ h1) rfl fun x1 => vc (cLe 65 c true) [] (n_le w b _ _ _ h2) rfl fun x2 => vc (cLe c 90 false) [] (n_le w b _ _ _ h3) rfl fun x3 => vc (cLe 97 c true) [] (n_le w b _ _ _ h4) rfl fun x4 => vc (cLe c 122 true) [] (n_le w b _ _ _ h5) rfl fun x5 => ve) fun f B T x1 x2 x3 x4 x5 => ⟨natAt [], by cases b <;> rfl'⟩
theorem n_is0_10 (w b) : Nd w b (cIS 10 false) :=
  nr [] [] 57 (Kk [Kfh,Kjp,Kjp]) (fun f B T => ve) fun f B T => ⟨natAt [], by cases b <;> rfl'⟩
theorem n_is0_32 (w b) : Nd w b (cIS 32 false) :=
  nr [] [] 57 (Kk [Kfh,Kjp,Kjp]) (fun f B T => ve) fun f B T => ⟨natAt [], by cases b <;> rfl'⟩
theorem n_is0_33 (w b) : Nd w b (cIS 33 false) :=
  nr [] [] 57 (Kk [Kfh,Kjp,Kjp]) (fun f B T => ve) fun f B T => ⟨natAt [], by cases b <;> rfl'⟩
theorem n_is0_37 (w b) : Nd w b (cIS 37 false) :=
  nr [] [] 57 (Kk [Kfh,Kjp,Kjp]) (fun f B T => ve) fun f B T => ⟨natAt [], by cases b <;> rfl'⟩
theorem n_is0_38 (w b) : Nd w b (cIS 38 false) :=
  nr [] [] 57 (Kk [Kfh,Kjp,Kjp]) (fun f B T => ve) fun f B T => ⟨natAt [], by cases b <;> rfl'⟩
theorem n_is0_40 (w b) : Nd w b (cIS 40 false) :=
  nr [] [] 57 (Kk [Kfh,Kjp,Kjp]) (fun f B T => ve) fun f B T => ⟨natAt [], by cases b <;> rfl'⟩
theorem n_is0_41 (w b) : Nd w b (cIS 41 false) :=
  nr [] [] 57 (Kk [Kfh,Kjp,Kjp]) (fun f B T => ve) fun f B T => ⟨natAt [], by cases b <;> rfl'⟩
theorem n_is0_42 (w b) : Nd w b (cIS 42 false) :=
  nr [] [] 57 (Kk [Kfh,Kjp,Kjp]) (fun f B T => ve) fun f B T => ⟨natAt [], by cases b <;> rfl'⟩
theorem n_is0_43 (w b) : Nd w b (cIS 43 false) :=
  nr [] [] 57 (Kk [Kfh,Kjp,Kjp]) (fun f B T => ve) fun f B T => ⟨natAt [], by cases b <;> rfl'⟩
theorem n_is0_44 (w b) : Nd w b (cIS 44 false) :=
  nr [] [] 57 (Kk [Kfh,Kjp,Kjp]) (fun f B T => ve) fun f B T => ⟨natAt [], by cases b <;> rfl'⟩
theorem n_is0_45 (w b) : Nd w b (cIS 45 false) :=
  nr [] [] 57 (Kk [Kfh,Kjp,Kjp]) (fun f B T => ve) fun f B T => ⟨natAt [], by cases b <;> rfl'⟩
theorem n_is0_46 (w b) : Nd w b (cIS 46 false) :=
  nr [] [] 57 (Kk [Kfh,Kjp,Kjp]) (fun f B T => ve) fun f B T => ⟨natAt [], by cases b <;> rfl'⟩
theorem n_is0_47 (w b) : Nd w b (cIS 47 false) :=
  nr [] [] 57 (Kk [Kfh,Kjp,Kjp]) (fun f B T => ve) fun f B T => ⟨natAt [], by cases b <;> rfl'⟩
theorem n_is0_58 (w b) : Nd w b (cIS 58 false) :=
  nr [] [] 57 (Kk [Kfh,Kjp,Kjp]) (fun f B T => ve) fun f B T => ⟨natAt [], by cases b <;> rfl'⟩
theorem n_is0_60 (w b) : Nd w b (cIS 60 false) :=
  nr [] [] 57 (Kk [Kfh,Kjp,Kjp]) (fun f B T => ve) fun f B T => ⟨natAt [], by cases b <;> rfl'⟩
theorem n_is0_61 (w b) : Nd w b (cIS 61 false) :=
  nr [] [] 57 (Kk [Kfh,Kjp,Kjp]) (fun f B T => ve) fun f B T => ⟨natAt [], by cases b <;> rfl'⟩
theorem n_is0_62 (w b) : Nd w b (cIS 62 false) :=
  nr [] [] 57 (Kk [Kfh,Kjp,Kjp]) (fun f B T => ve) fun f B T => ⟨natAt [], by cases b <;> rfl'⟩
theorem n_is0_63 (w b) : Nd w b (cIS 63 false) :=
  nr [] [] 57 (Kk [Kfh,Kjp,Kjp]) (fun f B T => ve) fun f B T => ⟨natAt [], by cases b <;> rfl'⟩
theorem n_is0_91 (w b) : Nd w b (cIS 91 false) :=
  nr [] [] 63 (Kk [Kfh,Krb,Kjp]) (fun f B T => ve) fun f B T => ⟨natAt [], by cases b <;> rfl'⟩
theorem n_is0_93 (w b) : Nd w b (cIS 93 false) :=
  nr [] [] 63 (Kk [Kfh,Krb,Kjp]) (fun f B T => ve) fun f B T => ⟨natAt [], by cases b <;> rfl'⟩
theorem n_is0_94 (w b) : Nd w b (cIS 94 false) :=
  nr [] [] 63 (Kk [Kfh,Krb,Kjp]) (fun f B T => ve) fun f B T => ⟨natAt [], by cases b <;> rfl'⟩
theorem n_is0_124 (w b) : Nd w b (cIS 124 false) :=
  nr [] [] 69 (Kk [Kfh,Krb,Kbn,Kaf]) (fun f B T => ve) fun f B T => ⟨natAt [], by cases b <;> rfl'⟩
theorem n_ip0_10 (w b) : Nd w b (cIP 10 false) :=
  nr [] [] 116 (Kk [Kgh,Kaw,Kjp,Kjp,Kaa,Kam,Kae,Kai]) (fun f B T => ve) fun f B T => ⟨natAt [], by cases b <;> rfl'⟩
theorem n_ip0_32 (w b) : Nd w b (cIP 32 false) :=
  nr [] [] 116 (Kk [Kgh,Kaw,Kjp,Kjp,Kaa,Kam,Kae,Kai]) (fun f B T => ve) fun f B T => ⟨natAt [], by cases b <;> rfl'⟩
theorem n_ip1 (w b) (c : Int) (h1 : decide (c < 128) = true) (h2 : decide (65 ≤ c) = true) (h3 : decide (c ≤ 90) = false) (h4 : decide (97 ≤ c) = true) (h5 : decide (c ≤ 122) = true) : Nd w b (cIP c true) :=
  nr [] [] 22 (Kk [Kgh,Kaf]) (fun f B T => vc (cIS c true) [] (n_is1 w b c h1 h2 h3 h4 h5) rfl fun x1 => ve) fun f B T x1 => ⟨natAt [], by cases b <;> rfl'⟩
theorem n_kw (w b) (x : Str) (v : Bool) (h : inS "list" (ktOf w.params) 247 x = some v) : Nd w b (cKW x v) :=
  nr [] [] 21 (Kk [Kfh,Kos]) (fun f B T => vc (cInS 247 x v) [] (n_inS w b 247 x v h) rfl fun x1 => ve) fun f B T x1 => ⟨natAt [], by cases b <;> rfl'⟩
noncomputable def swB (x z : Str) (i : Nat) : Bool := (decide (PySem.fromIndex x.length i + z.length ≤ x.length) && PySem.Builtin.Str.subAt x z (PySem.fromIndex x.length i))
noncomputable def lexO (P : Params) (tx : Str) (i ln : Nat) (k v : Nat → Nat) : Obj := dF P (lexL tx i ln) k v
noncomputable def slL (P : Params) (la ld : Addr) (tx : Str) (i ln : Nat) (k v : Nat → Nat) : List Slot := [⟨la, inst 505 ld, false⟩, ⟨ld, lexO P tx i ln k v, true⟩]
noncomputable def cSkip (P : Params) (la ld : Addr) (k v : Nat → Nat) (tx : Str) (i ln i' ln' : Nat) (r : Bool) : Cn := { co := fun _ => fcall 404 [.ref la], sl := slL P la ld tx i ln k v, res := fun _ => okV (.bool r), upi := [1], upo := fun y _ => lexO P tx i' ln' k y, D := 24, U := 180 }
theorem n_skip_0 (w b) (la ld : Addr) (k v : Nat → Nat) (tx : Str) (i ln : Nat) (c : Int)  (hc : Cat tx i c) (hl : inI (ktOf w.params) 44 c = some false) (hw : inI (ktOf w.params) 43 c = some false) (hw2 : decide (8192 ≤ c) = false) (hs1 : swB tx (Z "//") i = false) (hs2 : swB tx (Z "/*") i = false) : Nd w b (cSkip w.params la ld k v tx i ln i ln false) :=
  nr [2] [] 232 (Kk [Kfh,Kpj,Kbn,Khi,Kar,Kjp,Kaf,Kak,Kqo,Kqo,Kpj]) (fun f B T => vc (cAt tx i c) [] (n_cat w b hc) rfl fun x1 => vc (cLE c false) [] (n_isle w b c false hl) rfl fun x2 => vc (cWH c false) [] (n_wh0 w b c hw hw2) rfl fun x3 => vc (cSW tx (Z "//") i false) [] (n_sw w b _ _ _ _ hs1) rfl fun x4 => vc (cSW tx (Z "/*") i false) [] (n_sw w b _ _ _ _ hs2) rfl fun x5 => vc (cGt ln ln false) [] (n_gt w b _ _ _ (by simp; try omega)) rfl fun x6 => ve) fun f B T x1 x2 x3 x4 x5 x6 => ⟨natAt [(v 0), (v (0 + 1)), (v (0 + 1 + 1))], by cases b <;> rfl'⟩
theorem n_skip_s (w b) (la ld : Addr) (k v : Nat → Nat) (tx : Str) (i ln : Nat) (c : Int)  (h0 : At tx i 32) (hc : Cat tx (i + 1) c) (hl : inI (ktOf w.params) 44 c = some false) (hw : inI (ktOf w.params) 43 c = some false) (hw2 : decide (8192 ≤ c) = false) (hs1 : swB tx (Z "//") (i + 1) = false) (hs2 : swB tx (Z "/*") (i + 1) = false) : Nd w b (cSkip w.params la ld k v tx i ln (i + 1) ln false) :=
  nr [2] [] 356 (Kk [Kfh,Kpj,Kbn,Khi,Kar,Kjp,Kaf,Kak,Kbr,128,Kdq,Kbn,Khi,Kar,Kjp,Kaf,Kak,Kqo,Kqo,Kpj]) (fun f B T => vc (cAt tx i 32) [] (n_at w b tx i 32 h0) rfl fun x1 => vc (cLE 32 false) [] (n_isle w b 32 false (by rfl')) rfl fun x2 => vc (cWH 32 true) [] (n_wh1 w b 32 (by rfl')) rfl fun x3 => vc (cAt tx (i + 1) c) [] (n_cat w b hc) rfl fun x4 => vc (cLE c false) [] (n_isle w b c false hl) rfl fun x5 => vc (cWH c false) [] (n_wh0 w b c hw hw2) rfl fun x6 => vc (cSW tx (Z "//") ((i + 1 : Nat) : Int) false) [] (n_sw w b _ _ _ _ hs1) rfl fun x7 => vc (cSW tx (Z "/*") ((i + 1 : Nat) : Int) false) [] (n_sw w b _ _ _ _ hs2) rfl fun x8 => vc (cGt ln ln false) [] (n_gt w b _ _ _ (by simp; try omega)) rfl fun x9 => ve) fun f B T x1 x2 x3 x4 x5 x6 x7 x8 x9 => ⟨natAt [(v 0), (x3.2.1 + 2), (v (0 + 1 + 1))], by cases b <;> rfl'⟩
theorem n_skip_n1 (w b) (la ld : Addr) (k v : Nat → Nat) (tx : Str) (i ln : Nat) (c : Int)  (h0 : At tx i 10) (hc : Cat tx (i + 1) c) (hl : inI (ktOf w.params) 44 c = some false) (hw : inI (ktOf w.params) 43 c = some false) (hw2 : decide (8192 ≤ c) = false) (hs1 : swB tx (Z "//") (i + 1) = false) (hs2 : swB tx (Z "/*") (i + 1) = false) : Nd w b (cSkip w.params la ld k v tx i ln (i + 1) (ln + 1) true) :=
  nr [4] [] 507 (Kk [Kfh,Kpj,Kbn,Khi,Kar,Kaf,Kak,Krq,Kaw,Kfw,Kaf,Kfw,129,Kdz,Kbb,Kgx,Kaf,Kaa,Kpk,130,Kcq,128,Kpk,Kaa,131,Kcq,131,Kfn,Kal,Kai,Kaf,Kai,Klp,Kcq,131,Kcq,16769,Kcq,131,Kcq,16769,Kcq,16515]) (fun f B T => vc (cAt tx i 10) [] (n_at w b tx i 10 h0) rfl fun x1 => vc (cLE 10 true) [] (n_isle w b 10 true (by rfl')) rfl fun x2 => vc (cAt tx i 10) [] (n_at w b tx i 10 h0) rfl fun x3 => vc (cAt tx (i + 1) c) [] (n_cat w b hc) rfl fun x4 => vc (cLE c false) [] (n_isle w b c false hl) rfl fun x5 => vc (cWH c false) [] (n_wh0 w b c hw hw2) rfl fun x6 => vc (cSW tx (Z "//") ((i + 1 : Nat) : Int) false) [] (n_sw w b _ _ _ _ hs1) rfl fun x7 => vc (cSW tx (Z "/*") ((i + 1 : Nat) : Int) false) [] (n_sw w b _ _ _ _ hs2) rfl fun x8 => vc (cGt (ln + 1) ln true) [] (n_gt w b _ _ _ (by simp; try omega)) rfl fun x9 => ve) fun f B T x1 x2 x3 x4 x5 x6 x7 x8 x9 => ⟨natAt [(v 0), (x3.2.1 + 2), (x3.2.1 + 7)], by cases b <;> rfl'⟩
theorem n_skip_n2 (w b) (la ld : Addr) (k v : Nat → Nat) (tx : Str) (i ln : Nat) (c : Int)  (h0 : At tx i 10) (h1 : At tx (i + 1) 10) (hc : Cat tx (i + 2) c) (hl : inI (ktOf w.params) 44 c = some false) (hw : inI (ktOf w.params) 43 c = some false) (hw2 : decide (8192 ≤ c) = false) (hs1 : swB tx (Z "//") (i + 2) = false) (hs2 : swB tx (Z "/*") (i + 2) = false) : Nd w b (cSkip w.params la ld k v tx i ln (i + 2) (ln + 2) true) :=
  nr [6] [] 782 (Kk [Kfh,Kpj,Kbn,Khi,Kar,Kaf,Kak,Krq,Kaw,Kfw,Kaf,Kfw,129,Kdz,Kbb,Kgx,Kaf,Kaa,Kpk,130,Kcq,128,Kpk,Kaa,131,Kcq,131,Kfn,Kal,Kai,Klp,Kkr,Kkr,Kdw,Kaw,Kdn,Kaf,Kdn,129,Kdn,Kab,Kgx,Kaf,Kaa,Kdc,Kbc,Kbc,Kag,Kox,Kef,130,Kfa,Kbc,Kcy,Kbc,Kbc,Kag,Kox,Kef,Kps,Kfa,133,Kfa,Kaf,Kqy,Kaf,Kjs,Kaf,133,Kfa,133,Kfa,17025,Kfa,133,Kfa,17025,Kfa,16517]) (fun f B T => vc (cAt tx i 10) [] (n_at w b tx i 10 h0) rfl fun x1 => vc (cLE 10 true) [] (n_isle w b 10 true (by rfl')) rfl fun x2 => vc (cAt tx i 10) [] (n_at w b tx i 10 h0) rfl fun x3 => vc (cAt tx (i + 1) 10) [] (n_at w b tx (i + 1) 10 h1) rfl fun x4 => vc (cLE 10 true) [] (n_isle w b 10 true (by rfl')) rfl fun x5 => vc (cAt tx (i + 1) 10) [] (n_at w b tx (i + 1) 10 h1) rfl fun x6 => vc (cAt tx (i + 2) c) [] (n_cat w b hc) rfl fun x7 => vc (cLE c false) [] (n_isle w b c false hl) rfl fun x8 => vc (cWH c false) [] (n_wh0 w b c hw hw2) rfl fun x9 => vc (cSW tx (Z "//") ((i + 2 : Nat) : Int) false) [] (n_sw w b _ _ _ _ hs1) rfl fun x10 => vc (cSW tx (Z "/*") ((i + 2 : Nat) : Int) false) [] (n_sw w b _ _ _ _ hs2) rfl fun x11 => vc (cGt (ln + 2) ln true) [] (n_gt w b _ _ _ (by simp; try omega)) rfl fun x12 => ve) fun f B T x1 x2 x3 x4 x5 x6 x7 x8 x9 x10 x11 x12 => ⟨natAt [(v 0), (x6.2.1 + 2), (x6.2.1 + 7)], by cases b <;> rfl'⟩
theorem n_skip_n3 (w b) (la ld : Addr) (k v : Nat → Nat) (tx : Str) (i ln : Nat) (c : Int)  (h0 : At tx i 10) (h1 : At tx (i + 1) 10) (h2 : At tx (i + 2) 10) (hc : Cat tx (i + 3) c) (hl : inI (ktOf w.params) 44 c = some false) (hw : inI (ktOf w.params) 43 c = some false) (hw2 : decide (8192 ≤ c) = false) (hs1 : swB tx (Z "//") (i + 3) = false) (hs2 : swB tx (Z "/*") (i + 3) = false) : Nd w b (cSkip w.params la ld k v tx i ln (i + 3) (ln + 3) true) :=
  nr [8] [] 1057 (Kk [Kfh,Kpj,Kbn,Khi,Kar,Kaf,Kak,Krq,Kaw,Kfw,Kaf,Kfw,129,Kdz,Kbb,Kgx,Kaf,Kaa,Kpk,130,Kcq,128,Kpk,Kaa,131,Kcq,131,Kfn,Kal,Kai,Klp,Kkr,Kkr,Kdw,Kaw,Kdn,Kaf,Kdn,129,Kdn,Kab,Kgx,Kaf,Kaa,Kdc,Kbc,Kbc,Kag,Kox,Kef,130,Kfa,Kbc,Kcy,Kbc,Kbc,Kag,Kox,Kef,Kps,Kfa,133,Kfa,Kaf,Kqy,Kaf,17157,Kag,134,Kag,Kdc,135,Kaw,135,Klv,Keh,Klv,17281,Kab,135,Kag,Kbd,128,Kbx,Kgx,Kaf,Kaa,Kqw,130,Kfk,128,Kqw,Kaa,135,Kfk,135,Kfk,Kaf,Kbd,Kcm,Kaf,Kcm,Keh,Kfk,135,Kfk,17281,Kfk,135,Kfk,17281,Kfk,16519]) (fun f B T => vc (cAt tx i 10) [] (n_at w b tx i 10 h0) rfl fun x1 => vc (cLE 10 true) [] (n_isle w b 10 true (by rfl')) rfl fun x2 => vc (cAt tx i 10) [] (n_at w b tx i 10 h0) rfl fun x3 => vc (cAt tx (i + 1) 10) [] (n_at w b tx (i + 1) 10 h1) rfl fun x4 => vc (cLE 10 true) [] (n_isle w b 10 true (by rfl')) rfl fun x5 => vc (cAt tx (i + 1) 10) [] (n_at w b tx (i + 1) 10 h1) rfl fun x6 => vc (cAt tx (i + 2) 10) [] (n_at w b tx (i + 2) 10 h2) rfl fun x7 => vc (cLE 10 true) [] (n_isle w b 10 true (by rfl')) rfl fun x8 => vc (cAt tx (i + 2) 10) [] (n_at w b tx (i + 2) 10 h2) rfl fun x9 => vc (cAt tx (i + 3) c) [] (n_cat w b hc) rfl fun x10 => vc (cLE c false) [] (n_isle w b c false hl) rfl fun x11 => vc (cWH c false) [] (n_wh0 w b c hw hw2) rfl fun x12 => vc (cSW tx (Z "//") ((i + 3 : Nat) : Int) false) [] (n_sw w b _ _ _ _ hs1) rfl fun x13 => vc (cSW tx (Z "/*") ((i + 3 : Nat) : Int) false) [] (n_sw w b _ _ _ _ hs2) rfl fun x14 => vc (cGt (ln + 3) ln true) [] (n_gt w b _ _ _ (by simp; try omega)) rfl fun x15 => ve) fun f B T x1 x2 x3 x4 x5 x6 x7 x8 x9 x10 x11 x12 x13 x14 x15 => ⟨natAt [(v 0), (x9.2.1 + 2), (x9.2.1 + 7)], by cases b <;> rfl'⟩
noncomputable def cEqI (x y : Int) (v : Bool) : Cn := cVal (fun f => bcall "int.__eq__" [.int x (f 0), .int y (f 1)]) fun _ => .bool v
noncomputable def cGe (x y : Int) (v : Bool) : Cn := cVal (fun f => bcall "int.__ge__" [.int x (f 0), .int y (f 1)]) fun _ => .bool v
section
variable (w : World) (b : Bool) {ix : List Nat}
theorem n_eqI (x y : Int) (v : Bool) (h : decide (x = y) = v) (I : IxOk (cEqI x y v) ix) : Node (par w b 0 0) 0 0 XT ((cEqI x y v).spec ix) :=
  n_val I fun f A s R hR => code_slot PySem.F.slot_int_eq (typeIs_int s x (f 0)) PySem.F.entry_int_eq (PySem.F.args_int_eq_2 _ _) (gives_int_eq x y (f 0) (f 1)) (by
    have e : (x == y) = v := by rw [← h]; rfl
    show R (.ok (.ret (.bool (x == y)))) s
    rw [e]; exact hR (fun _ => 0) s.toks)
theorem n_ge (x y : Int) (v : Bool) (h : decide (x ≥ y) = v) (I : IxOk (cGe x y v) ix) : Node (par w b 0 0) 0 0 XT ((cGe x y v).spec ix) :=
  n_val I fun f A s R hR => code_slot PySem.F.slot_int_ge (typeIs_int s x (f 0)) PySem.F.entry_int_ge (PySem.F.args_int_ge_2 _ _) (gives_int_ge x y (f 0) (f 1)) (h ▸ hR (fun _ => 0) s.toks)
end
theorem code_fn {prog : Program} {w : World} {A : Around} {s : Shared} {R : Result → Shared → Prop} {id : String} {b : Builtin} {args : List Value} {m : Made} (hk : builtinKind id = none) (hp : plainId id = true) (hb : entryFor table id = some b) (ha : argsOk id ⟨args, []⟩)
    (g : Gives (b ⟨args, []⟩) m) (h : m.post (fun v s' => R (.ok (.ret v)) s') s) : codeAny (model prog w) A (.call (.builtin id) ⟨args, []⟩) R s := by
  refine codeAny_call_builtin hp hb ?_
  have hfin := g prog w A R s h
  simp only [checkBuiltinCall, hk]
  cases hsig : Manifest.signature? id with
  | none => exact wpAny_pure hfin
  | some sig =>
    simp only [argsOk, hsig] at ha
    have h2 : Bind.checkArgs id sig ⟨args, []⟩ = pure () := ha
    show wpAny _ A.in1 (Bind.checkArgs id sig ⟨args, []⟩) _ _ s
    rw [h2]
    exact wpAny_pure hfin
noncomputable def cChr (c : Nat) : Cn := cVal (fun f => bcall "chr" [.int c (f 0)]) fun y => .str ⟨#[c]⟩ (y 0)
theorem n_chr (w : World) (b : Bool) {ix : List Nat} (c : Nat) (h : (decide ((c : Int) < 0) || decide ((c : Int) > 0x10FFFF)) = false) (I : IxOk (cChr c) ix) : Node (par w b 0 0) 0 0 XT ((cChr c).spec ix) :=
  n_val I fun f A s R hR => code_fn PySem.F.kind_chr PySem.F.plain_chr PySem.F.entry_chr (PySem.F.args_chr1 _) (gives_chr c (f 0) h) ⟨(by show 1 ≤ sizeLine; decide), hR (fun _ => s.toks) _⟩
noncomputable def slR (P : Params) (la ld : Addr) (tx : Str) (i ln : Nat) (k v : Nat → Nat) : List Slot := [⟨la, inst 505 ld, false⟩, ⟨ld, lexO P tx i ln k v, false⟩]
noncomputable def tupO (l : List Value) : Obj := ⟨.type "tuple", none, .seq l.toArray 0, #[]⟩
noncomputable def cNS (P : Params) (la ld : Addr) (k v : Nat → Nat) (tx : Str) (i ln : Nat) (fst : Bool) (c : Nat) : Cn :=
  { co := fun _ => fcall 418 [.ref la, .bool fst], sl := slR P la ld tx i ln k v, res := fun y => okV (.ref (y 0)), add := fun y => [(y 0, tupO [.str ⟨#[c]⟩ (y 1), .int (i + 1 : Nat) (y 2)])], D := 24, U := 180 }
noncomputable def cNN (P : Params) (la ld : Addr) (k v : Nat → Nat) (tx : Str) (i ln : Nat) (fst : Bool) : Cn :=
  { co := fun _ => fcall 418 [.ref la, .bool fst], sl := slR P la ld tx i ln k v, res := fun _ => okV .none, D := 24, U := 180 }
abbrev vcG {w : World} {b : Bool} {D U : Nat} (x y : Int) (v : Bool) (h : decide (x ≥ y) = v) (r : XT → VT (par w b D U) 0 0) : VT (par w b D U) 0 0 := vc (cGe x y v) [] (n_ge w b _ _ _ h) rfl r
theorem n_ns_true (w b) (la ld : Addr) (k v : Nat → Nat) (tx : Str) (i ln : Nat) (c : Nat) (h0 : At tx i c) (h1 : decide ((c : Int) < 128) = true) (h2 : decide (65 ≤ (c : Int)) = true) (h3 : decide ((c : Int) ≤ 90) = false) (h4 : decide (97 ≤ (c : Int)) = true) (h5 : decide ((c : Int) ≤ 122) = true) (h6 : decide ((c : Int) = 92) = false) (h7 : decide ((c : Int) ≥ 0) = true) (h8 : (decide ((c : Int) < 0) || decide ((c : Int) > 0x10FFFF)) = false) : Nd w b (cNS w.params la ld k v tx i ln true c) :=
  nr [] [0] 215 (Kk [Kaa,Kfp,Khi,Kak,Kbr,Kar,Kar,Kgc,Kco,Kge,Khj,Kek,0x10a04281,Kjs,Kaf,Khj,Kps,17025]) (fun f B T => vc (cAt tx i c) [] (n_at w b tx i c h0) rfl fun x1 => vc (cEqI c 92 false) [] (n_eqI w b _ _ _ h6) rfl fun x2 => vc (cGe c 0 true) [] (n_ge w b _ _ _ h7) rfl fun x3 => vc (cIS c true) [] (n_is1 w b c h1 h2 h3 h4 h5) rfl fun x4 => vc (cChr c) [] (n_chr w b c h8) rfl fun x5 => ve) fun f B T x1 x2 x3 x4 x5 => ⟨natAt [x4.1, (x5.2.2 0), (x1.2.1 + 2)], by cases b <;> rfl'⟩
theorem n_ns_false (w b) (la ld : Addr) (k v : Nat → Nat) (tx : Str) (i ln : Nat) (c : Nat) (h0 : At tx i c) (h1 : decide ((c : Int) < 128) = true) (h2 : decide (65 ≤ (c : Int)) = true) (h3 : decide ((c : Int) ≤ 90) = false) (h4 : decide (97 ≤ (c : Int)) = true) (h5 : decide ((c : Int) ≤ 122) = true) (h6 : decide ((c : Int) = 92) = false) (h7 : decide ((c : Int) ≥ 0) = true) (h8 : (decide ((c : Int) < 0) || decide ((c : Int) > 0x10FFFF)) = false) : Nd w b (cNS w.params la ld k v tx i ln false c) :=
  nr [] [0] 215 (Kk [Kaa,Kfp,Khi,Kak,Kbr,Kar,Kar,Kgc,Kco,Kge,Khj,Kek,0x10a04281,Kjs,Kaf,Khj,Kps,17025]) (fun f B T => vc (cAt tx i c) [] (n_at w b tx i c h0) rfl fun x1 => vc (cEqI c 92 false) [] (n_eqI w b _ _ _ h6) rfl fun x2 => vc (cGe c 0 true) [] (n_ge w b _ _ _ h7) rfl fun x3 => vc (cIP c true) [] (n_ip1 w b c h1 h2 h3 h4 h5) rfl fun x4 => vc (cChr c) [] (n_chr w b c h8) rfl fun x5 => ve) fun f B T x1 x2 x3 x4 x5 => ⟨natAt [x4.1, (x5.2.2 0), (x1.2.1 + 2)], by cases b <;> rfl'⟩
theorem n_nn_10 (w b) (la ld : Addr) (k v : Nat → Nat) (tx : Str) (i ln : Nat) (h0 : At tx i 10) : Nd w b (cNN w.params la ld k v tx i ln false) :=
  nr [] [] 207 (Kk [Kaa,Kfp,Khi,Kak,Kbr,Kar,Kar,Kgc,Kco,Kge,Khj,Khu,133,Kjs,Kjs,Kaf,Khj]) (fun f B T => vc (cAt tx i 10) [] (n_at w b tx i 10 h0) rfl fun x1 => vc (cIP 10 false) [] (n_ip0_10 w b) rfl fun x2 => ve) fun f B T x1 x2 => ⟨natAt [], by cases b <;> rfl'⟩
theorem n_nn_32 (w b) (la ld : Addr) (k v : Nat → Nat) (tx : Str) (i ln : Nat) (h0 : At tx i 32) : Nd w b (cNN w.params la ld k v tx i ln false) :=
  nr [] [] 207 (Kk [Kaa,Kfp,Khi,Kak,Kbr,Kar,Kar,Kgc,Kco,Kge,Khj,Khu,133,Kjs,Kjs,Kaf,Khj]) (fun f B T => vc (cAt tx i 32) [] (n_at w b tx i 32 h0) rfl fun x1 => vc (cIP 32 false) [] (n_ip0_32 w b) rfl fun x2 => ve) fun f B T x1 x2 => ⟨natAt [], by cases b <;> rfl'⟩
theorem n_nn_off (w b) (la ld : Addr) (k v : Nat → Nat) (tx : Str) (i ln : Nat) (h0 : Off tx i) : Nd w b (cNN w.params la ld k v tx i ln false) :=
  nr [] [] 196 (Kk [Kaa,Kfp,Khi,Kak,Kbr,Kar,Kar,Kgc,Kco,Kge,Khj,Khu,16389,Khj]) (fun f B T => vc (cAt tx i (-1)) [] (n_off w b tx i h0) rfl fun x1 => ve) fun f B T x1 => ⟨natAt [], by cases b <;> rfl'⟩
theorem n_ip0_37 (w b) : Nd w b (cIP 37 false) :=
  nr [] [] 116 (Kk [Kgh,Kaw,Kjp,Kjp,Kaa,Kam,Kae,Kai]) (fun f B T => ve) fun f B T => ⟨natAt [], by cases b <;> rfl'⟩
theorem n_ip0_38 (w b) : Nd w b (cIP 38 false) :=
  nr [] [] 116 (Kk [Kgh,Kaw,Kjp,Kjp,Kaa,Kam,Kae,Kai]) (fun f B T => ve) fun f B T => ⟨natAt [], by cases b <;> rfl'⟩
theorem n_ip0_42 (w b) : Nd w b (cIP 42 false) :=
  nr [] [] 116 (Kk [Kgh,Kaw,Kjp,Kjp,Kaa,Kam,Kae,Kai]) (fun f B T => ve) fun f B T => ⟨natAt [], by cases b <;> rfl'⟩
theorem n_ip0_43 (w b) : Nd w b (cIP 43 false) :=
  nr [] [] 116 (Kk [Kgh,Kaw,Kjp,Kjp,Kaa,Kam,Kae,Kai]) (fun f B T => ve) fun f B T => ⟨natAt [], by cases b <;> rfl'⟩
theorem n_ip0_45 (w b) : Nd w b (cIP 45 false) :=
  nr [] [] 116 (Kk [Kgh,Kaw,Kjp,Kjp,Kaa,Kam,Kae,Kai]) (fun f B T => ve) fun f B T => ⟨natAt [], by cases b <;> rfl'⟩
theorem n_ip0_47 (w b) : Nd w b (cIP 47 false) :=
  nr [] [] 116 (Kk [Kgh,Kaw,Kjp,Kjp,Kaa,Kam,Kae,Kai]) (fun f B T => ve) fun f B T => ⟨natAt [], by cases b <;> rfl'⟩
theorem n_ip0_60 (w b) : Nd w b (cIP 60 false) :=
  nr [] [] 122 (Kk [Kgh,Kaw,Kjp,Kjp,Kaa,Kam,Kae,Kaa,131]) (fun f B T => ve) fun f B T => ⟨natAt [], by cases b <;> rfl'⟩
theorem n_ip0_61 (w b) : Nd w b (cIP 61 false) :=
  nr [] [] 122 (Kk [Kgh,Kaw,Kjp,Kjp,Kaa,Kam,Kae,Kaa,131]) (fun f B T => ve) fun f B T => ⟨natAt [], by cases b <;> rfl'⟩
theorem n_ip0_62 (w b) : Nd w b (cIP 62 false) :=
  nr [] [] 122 (Kk [Kgh,Kaw,Kjp,Kjp,Kaa,Kam,Kae,Kaa,131]) (fun f B T => ve) fun f B T => ⟨natAt [], by cases b <;> rfl'⟩
theorem n_ip0_94 (w b) : Nd w b (cIP 94 false) :=
  nr [] [] 128 (Kk [Kgh,Kaw,Krb,Kjp,Kaa,Kam,Kae,Kaa,131]) (fun f B T => ve) fun f B T => ⟨natAt [], by cases b <;> rfl'⟩
theorem n_ip0_124 (w b) : Nd w b (cIP 124 false) :=
  nr [] [] 134 (Kk [Kgh,Kaw,Krb,Kbn,Kaf,Kaa,Kam,Kae,Kaa,131]) (fun f B T => ve) fun f B T => ⟨natAt [], by cases b <;> rfl'⟩
abbrev SgC (c : Nat) : Prop := c = 37 ∨ c = 38 ∨ c = 42 ∨ c = 43 ∨ c = 45 ∨ c = 47 ∨ c = 60 ∨ c = 61 ∨ c = 62 ∨ c = 94 ∨ c = 124
theorem n_ip0_c (w b) {c : Nat} (hc : SgC c) {ix : List Nat} (I : IxOk (cIP c false) ix) : Node (par w b 0 0) 0 0 XT ((cIP c false).spec ix) := by
  rcases hc with rfl | rfl | rfl | rfl | rfl | rfl | rfl | rfl | rfl | rfl | rfl
  · exact n_ip0_37 w b I
  · exact n_ip0_38 w b I
  · exact n_ip0_42 w b I
  · exact n_ip0_43 w b I
  · exact n_ip0_45 w b I
  · exact n_ip0_47 w b I
  · exact n_ip0_60 w b I
  · exact n_ip0_61 w b I
  · exact n_ip0_62 w b I
  · exact n_ip0_94 w b I
  · exact n_ip0_124 w b I
theorem r_nn_c (w b) (f : Nat → Nat) (B T : Nat) (la ld : Addr) (k v : Nat → Nat) (tx : Str) (i ln : Nat) {c : Nat} (hc : SgC c) (x1 x2 : XT) : RunC w b f B T (cNN w.params la ld k v tx i ln false) [] [] 207 (Kk [Kaa,Kfp,Khi,Kak,Kbr,Kar,Kar,Kgc,Kco,Kge,Khj,Khu,133,Kjs,Kjs,Kaf,Khj]) [(cAt tx i c).spec [] x1, (cIP c false).spec [] x2] (natAt []) := by
  rcases hc with rfl | rfl | rfl | rfl | rfl | rfl | rfl | rfl | rfl | rfl | rfl <;> (cases b <;> rfl')
theorem n_nn_c (w b) (la ld : Addr) (k v : Nat → Nat) (tx : Str) (i ln : Nat) {c : Nat} (hc : SgC c) (h0 : At tx i c) {ix : List Nat} (I : IxOk (cNN w.params la ld k v tx i ln false) ix) : Node (par w b 0 0) 0 0 XT ((cNN w.params la ld k v tx i ln false).spec ix) :=
  node_run (by rfl') I [] [] 207 (Kk [Kaa,Kfp,Khi,Kak,Kbr,Kar,Kar,Kgc,Kco,Kge,Khj,Khu,133,Kjs,Kjs,Kaf,Khj]) (by rfl') rfl (fun _ => rfl) (fun f B T => .cons XT ((cAt tx i c).spec []) fun x1 => .cons XT ((cIP c false).spec []) fun x2 => .nil) (fun f B T => ⟨(n_at w b tx i c h0 (ixOk (by rfl'))).du, fun x1 => ⟨(n_ip0_c w b hc (ixOk (by rfl'))).du, fun x2 => trivial⟩⟩) fun f B T => fun x1 x2 => ⟨(natAt []), r_nn_c w b f B T la ld k v tx i ln hc x1 x2⟩
noncomputable def tokO (P : Params) (kd vl : Str) (ln : Nat) (bh : Bool) (st en : Nat) (k v : Nat → Nat) : Obj := dF P (tokL kd vl ln bh st en true) k v
noncomputable def slT (P : Params) (la ld : Addr) (tx : Str) (i ln : Nat) (k v : Nat → Nat) (t td : Addr) (kd vl : Str) (tl : Nat) (bh : Bool) (st en : Nat) (tk tv : Nat → Nat) : List Slot :=
  [⟨la, inst 505 ld, false⟩, ⟨ld, lexO P tx i ln k v, true⟩, ⟨t, inst 324 td, false⟩, ⟨td, tokO P kd vl tl bh st en tk tv, true⟩]
abbrev sE : Str := Z "end"
abbrev s0 : Str := Z ""
noncomputable def cRead (a : Addr) (P : Params) (la ld : Addr) (k v : Nat → Nat) (t td : Addr) (tk tv : Nat → Nat) (tx : Str) (i ln : Nat) (bh : Bool) (st i' : Nat) (kd vl : Str) : Cn :=
  { co := fun _ => fcall a [.ref la, .ref t], sl := slT P la ld tx i ln k v t td sE s0 ln bh st st tk tv, res := fun y => okV .none, upi := [1, 3], upo := fun y j => match j with
      | 1 => lexO P tx i' ln k y
      | _ => tokO P kd vl ln bh st st tk (fun j => y (3 + j)), D := 32, U := 240 }
abbrev Letter (c : Nat) : Prop := 97 ≤ c ∧ c ≤ 122
noncomputable def Stops (tx : Str) (i : Nat) : Prop := At tx i 10 ∨ At tx i 32 ∨ Off tx i ∨ ∃ c, SgC c ∧ At tx i c
section
variable (w : World) (b : Bool) (la ld : Addr) (k v : Nat → Nat) (tx : Str) (i ln : Nat) (c : Nat) {ix : List Nat}
theorem n_ns_true' (h0 : At tx i c) (hc : Letter c) (I : IxOk (cNS w.params la ld k v tx i ln true c) ix) : Node (par w b 0 0) 0 0 XT ((cNS w.params la ld k v tx i ln true c).spec ix) := by
  obtain ⟨h1, h2⟩ := hc
  exact n_ns_true w b la ld k v tx i ln c h0 (by simp; omega) (by simp; omega) (by simp; omega) (by simp; omega) (by simp; omega) (by simp; omega) (by simp) (by simp; omega) I
theorem n_ns_false' (h0 : At tx i c) (hc : Letter c) (I : IxOk (cNS w.params la ld k v tx i ln false c) ix) : Node (par w b 0 0) 0 0 XT ((cNS w.params la ld k v tx i ln false c).spec ix) := by
  obtain ⟨h1, h2⟩ := hc
  exact n_ns_false w b la ld k v tx i ln c h0 (by simp; omega) (by simp; omega) (by simp; omega) (by simp; omega) (by simp; omega) (by simp; omega) (by simp) (by simp; omega) I
theorem n_nn (h : Stops tx i) (I : IxOk (cNN w.params la ld k v tx i ln false) ix) : Node (par w b 0 0) 0 0 XT ((cNN w.params la ld k v tx i ln false).spec ix) := by
  rcases h with h | h | h | ⟨c, hc, h⟩
  · exact n_nn_10 w b la ld k v tx i ln h I
  · exact n_nn_32 w b la ld k v tx i ln h I
  · exact n_nn_off w b la ld k v tx i ln h I
  · exact n_nn_c w b la ld k v tx i ln hc h I
end
noncomputable def sC (l : List Nat) : Str := ⟨l.toArray⟩
theorem n_rn_x (w b) (la ld : Addr) (k v : Nat → Nat) (t td : Addr) (tk tv : Nat → Nat) (tx : Str) (i ln : Nat) (bh : Bool) (st : Nat) (c : Nat)  (h0 : At tx i c) (he : Stops tx (i + 1)) (hc : Letter c) (hk : inS "list" (ktOf w.params) 247 (sC [c]) = some false) : Nd w b (cRead 425 w.params la ld k v t td tk tv tx i ln bh st (i + 1) (Z "name") (sC [c])) :=
  nr [8, 10] [] 347 (Kk [Krd,Kel,Kfx,Kag,Kce,Kqp,Kgn,Kll,Kmb,Kfk,Keh,Kmf,Kip,128,Kmf,Kmb,Kqw,Kls,Kld,Kag,Kfg,Kaf,Kbd,Kll,128,Kas,135,Kbq,Kbs,Kbs,Knv,Kqx,Kcm,Kcf,Keh,Kbq,Kbs,Kbs,Knv,Kqx]) (fun f B T => vc (cNS w.params la ld k v tx i ln true c) [2, 3] (n_ns_true' w b la ld k _ tx i ln c h0 hc) rfl fun x1 => vc (cGt (i + 1 : Nat) (i + 1 : Nat) false) [] (n_gt w b _ _ _ (by simp)) rfl fun x2 => vc (cNN w.params la ld k (natAt [v 0, x1.2.2 2, v 2]) tx (i + 1) ln false) [7, 8] (n_nn w b la ld k _ tx (i + 1) ln he) rfl fun x3 => vc (cKW (sC [c]) false) [] (n_kw w b _ _ hk) rfl fun x4 => ve) fun f B T x1 x2 x3 x4 => ⟨natAt [(v 0), (x1.2.2 2), (v (0 + 1 + 1)), x4.2.1, (x1.2.2 1), (tv (0 + 1 + 1)), 0, (tv (0 + 1 + 1 + 1 + 1)), (tv (0 + 1 + 1 + 1 + 1 + 1)), 0, 0], by cases b <;> rfl'⟩
theorem n_rn_in (w b) (la ld : Addr) (k v : Nat → Nat) (t td : Addr) (tk tv : Nat → Nat) (tx : Str) (i ln : Nat) (bh : Bool) (st : Nat)  (h0 : At tx i 105) (h1 : At tx (i + 1) 110) (he : Stops tx (i + 2)) : Nd w b (cRead 425 w.params la ld k v t td tk tv tx i ln bh st (i + 2) (Z "keyword") (sC [105, 110])) :=
  nr [9, 11] [] 492 (Kk [Krd,Kel,Kfx,Kag,Kce,Kqp,Kgn,Kll,Kmb,Kfk,Keh,Kmf,Kip,128,Kmf,Kmb,Kqw,Kls,Kld,Kag,Kfg,Kaf,Kpl,Kaz,Koo,Kdh,Kda,Koj,Kmn,Koj,Koo,Kbz,Kcx,Kcx,Kmp,Kpz,138,Kfi,Kmp,Kag,Khh,Kaf,Kpl,Kaz,Kll,136,Kec,Kba,Kba,Knu,Knp,Kdv,Kii,Kda,Kec,Kba,Kba,Knu,Knp]) (fun f B T => vc (cNS w.params la ld k v tx i ln true 105) [2, 3] (n_ns_true' w b la ld k _ tx i ln 105 h0 (by decide)) rfl fun x1 => vc (cGt (i + 1 : Nat) (i + 1 : Nat) false) [] (n_gt w b _ _ _ (by simp)) rfl fun x2 => vc (cNS w.params la ld k (natAt [v 0, x1.2.2 2, v 2]) tx (i + 1) ln false 110) [7, 8] (n_ns_false' w b la ld k _ tx (i + 1) ln 110 h1 (by decide)) rfl fun x3 => vc (cGt ((i + 1) + 1 : Nat) ((i + 1) + 1 : Nat) false) [] (n_gt w b _ _ _ (by simp)) rfl fun x4 => vc (cNN w.params la ld k (natAt [v 0, x3.2.2 2, v 2]) tx (i + 2) ln false) [8, 9] (n_nn w b la ld k _ tx (i + 2) ln he) rfl fun x5 => vc (cKW (sC [105, 110]) true) [] (n_kw w b _ _ (by rfl')) rfl fun x6 => ve) fun f B T x1 x2 x3 x4 x5 x6 => ⟨natAt [(v 0), (x3.2.2 2), (v (0 + 1 + 1)), x6.2.1, (x5.2.1 + 2), (tv (0 + 1 + 1)), 0, (tv (0 + 1 + 1 + 1 + 1)), (tv (0 + 1 + 1 + 1 + 1 + 1)), 0, 0], by cases b <;> rfl'⟩
theorem n_rn_new (w b) (la ld : Addr) (k v : Nat → Nat) (t td : Addr) (tk tv : Nat → Nat) (tx : Str) (i ln : Nat) (bh : Bool) (st : Nat)  (h0 : At tx i 110) (h1 : At tx (i + 1) 101) (h2 : At tx (i + 2) 119) (he : Stops tx (i + 3)) : Nd w b (cRead 425 w.params la ld k v t td tk tv tx i ln bh st (i + 3) (Z "keyword") (sC [110, 101, 119])) :=
  nr [10, 12] [] 637 (Kk [Krd,Kel,Kfx,Kag,Kce,Kqp,Kgn,Kll,Kmb,Kfk,Keh,Kmf,Kip,128,Kmf,Kmb,Kqw,Kls,Kld,Kag,Kfg,Kaf,Kpl,Kaz,Koo,Kdh,Kda,Koj,Kmn,Koj,Koo,Kbz,Kcx,Kcx,Kmp,Kpz,138,Kfi,Kmp,Kag,Khh,Kaf,Kax,Kfy,Kqu,Kcf,Kjz,Kly,Kmn,Kly,Kqu,Kbq,Kbs,Kbs,Knv,Kqx,Kfs,Knv,Kag,Kko,Kaf,Kax,Kfy,128,Kaz,17929,Kem,Kdg,Kdg,Kra,Kpy,Kcx,140,Kkz,Kjz,140,Kem,Kdg,Kdg,Kra,Kpy]) (fun f B T => vc (cNS w.params la ld k v tx i ln true 110) [2, 3] (n_ns_true' w b la ld k _ tx i ln 110 h0 (by decide)) rfl fun x1 => vc (cGt (i + 1 : Nat) (i + 1 : Nat) false) [] (n_gt w b _ _ _ (by simp)) rfl fun x2 => vc (cNS w.params la ld k (natAt [v 0, x1.2.2 2, v 2]) tx (i + 1) ln false 101) [7, 8] (n_ns_false' w b la ld k _ tx (i + 1) ln 101 h1 (by decide)) rfl fun x3 => vc (cGt ((i + 1) + 1 : Nat) ((i + 1) + 1 : Nat) false) [] (n_gt w b _ _ _ (by simp)) rfl fun x4 => vc (cNS w.params la ld k (natAt [v 0, x3.2.2 2, v 2]) tx (i + 2) ln false 119) [8, 9] (n_ns_false' w b la ld k _ tx (i + 2) ln 119 h2 (by decide)) rfl fun x5 => vc (cGt ((i + 2) + 1 : Nat) ((i + 2) + 1 : Nat) false) [] (n_gt w b _ _ _ (by simp)) rfl fun x6 => vc (cNN w.params la ld k (natAt [v 0, x5.2.2 2, v 2]) tx (i + 3) ln false) [9, 10] (n_nn w b la ld k _ tx (i + 3) ln he) rfl fun x7 => vc (cKW (sC [110, 101, 119]) true) [] (n_kw w b _ _ (by rfl')) rfl fun x8 => ve) fun f B T x1 x2 x3 x4 x5 x6 x7 x8 => ⟨natAt [(v 0), (x5.2.2 2), (v (0 + 1 + 1)), x8.2.1, (x7.2.1 + 2), (tv (0 + 1 + 1)), 0, (tv (0 + 1 + 1 + 1 + 1)), (tv (0 + 1 + 1 + 1 + 1 + 1)), 0, 0], by cases b <;> rfl'⟩
theorem n_rn_this (w b) (la ld : Addr) (k v : Nat → Nat) (t td : Addr) (tk tv : Nat → Nat) (tx : Str) (i ln : Nat) (bh : Bool) (st : Nat)  (h0 : At tx i 116) (h1 : At tx (i + 1) 104) (h2 : At tx (i + 2) 105) (h3 : At tx (i + 3) 115) (he : Stops tx (i + 4)) : Nd w b (cRead 425 w.params la ld k v t td tk tv tx i ln bh st (i + 4) (Z "keyword") (sC [116, 104, 105, 115])) :=
  nr [11, 13] [] 782 (Kk [Krd,Kel,Kfx,Kag,Kce,Kqp,Kgn,Kll,Kmb,Kfk,Keh,Kmf,Kip,128,Kmf,Kmb,Kqw,Kls,Kld,Kag,Kfg,Kaf,Kpl,Kaz,Koo,Kdh,Kda,Koj,Kmn,Koj,Koo,Kbz,Kcx,Kcx,Kmp,Kpz,138,Kfi,Kmp,Kag,Khh,Kaf,Kax,Kfy,Kqu,Kcf,Kjz,Kly,Kmn,Kly,Kqu,Kbq,Kbs,Kbs,Knv,Kqx,Kfs,Knv,Kag,Kko,Kaf,Kbf,Kpz,Kcj,138,Kii,Krc,Kax,Kax,138,Kcj,Kmg,138,Kcj,138,Kec,Kba,Kba,Knu,Knp,Kgt,Knu,Kag,Kkm,Kaf,Kbf,Kpz,Kfy,138,Kdf,Kfz,Kfz,Kag,141,Kcc,Kcu,Kbs,Kew,Krc,Kdf,Kfz,Kfz,Kag,141,Kcc,Kcu]) (fun f B T => vc (cNS w.params la ld k v tx i ln true 116) [2, 3] (n_ns_true' w b la ld k _ tx i ln 116 h0 (by decide)) rfl fun x1 => vc (cGt (i + 1 : Nat) (i + 1 : Nat) false) [] (n_gt w b _ _ _ (by simp)) rfl fun x2 => vc (cNS w.params la ld k (natAt [v 0, x1.2.2 2, v 2]) tx (i + 1) ln false 104) [7, 8] (n_ns_false' w b la ld k _ tx (i + 1) ln 104 h1 (by decide)) rfl fun x3 => vc (cGt ((i + 1) + 1 : Nat) ((i + 1) + 1 : Nat) false) [] (n_gt w b _ _ _ (by simp)) rfl fun x4 => vc (cNS w.params la ld k (natAt [v 0, x3.2.2 2, v 2]) tx (i + 2) ln false 105) [8, 9] (n_ns_false' w b la ld k _ tx (i + 2) ln 105 h2 (by decide)) rfl fun x5 => vc (cGt ((i + 2) + 1 : Nat) ((i + 2) + 1 : Nat) false) [] (n_gt w b _ _ _ (by simp)) rfl fun x6 => vc (cNS w.params la ld k (natAt [v 0, x5.2.2 2, v 2]) tx (i + 3) ln false 115) [9, 10] (n_ns_false' w b la ld k _ tx (i + 3) ln 115 h3 (by decide)) rfl fun x7 => vc (cGt ((i + 3) + 1 : Nat) ((i + 3) + 1 : Nat) false) [] (n_gt w b _ _ _ (by simp)) rfl fun x8 => vc (cNN w.params la ld k (natAt [v 0, x7.2.2 2, v 2]) tx (i + 4) ln false) [10, 11] (n_nn w b la ld k _ tx (i + 4) ln he) rfl fun x9 => vc (cKW (sC [116, 104, 105, 115]) true) [] (n_kw w b _ _ (by rfl')) rfl fun x10 => ve) fun f B T x1 x2 x3 x4 x5 x6 x7 x8 x9 x10 => ⟨natAt [(v 0), (x7.2.2 2), (v (0 + 1 + 1)), x10.2.1, (x9.2.1 + 2), (tv (0 + 1 + 1)), 0, (tv (0 + 1 + 1 + 1 + 1)), (tv (0 + 1 + 1 + 1 + 1 + 1)), 0, 0], by cases b <;> rfl'⟩
theorem n_rn_typeof (w b) (la ld : Addr) (k v : Nat → Nat) (t td : Addr) (tk tv : Nat → Nat) (tx : Str) (i ln : Nat) (bh : Bool) (st : Nat)  (h0 : At tx i 116) (h1 : At tx (i + 1) 121) (h2 : At tx (i + 2) 112) (h3 : At tx (i + 3) 101) (h4 : At tx (i + 4) 111) (h5 : At tx (i + 5) 102) (he : Stops tx (i + 6)) : Nd w b (cRead 425 w.params la ld k v t td tk tv tx i ln bh st (i + 6) (Z "keyword") (sC [116, 121, 112, 101, 111, 102])) :=
  nr [13, 15] [] 1072 (Kk [Krd,Kel,Kfx,Kag,Kce,Kqp,Kgn,Kll,Kmb,Kfk,Keh,Kmf,Kip,128,Kmf,Kmb,Kqw,Kls,Kld,Kag,Kfg,Kaf,Kpl,Kaz,Koo,Kdh,Kda,Koj,Kmn,Koj,Koo,Kbz,Kcx,Kcx,Kmp,Kpz,138,Kfi,Kmp,Kag,Khh,Kaf,Kax,Kfy,Kqu,Kcf,Kjz,Kly,Kmn,Kly,Kqu,Kbq,Kbs,Kbs,Knv,Kqx,Kfs,Knv,Kag,Kko,Kaf,Kbf,Kpz,Kcj,138,Kii,Krc,Kax,Kax,138,Kcj,Kmg,138,Kcj,138,Kec,Kba,Kba,Knu,Knp,Kgt,Knu,Kag,Kkm,Kaf,Kpi,139,Kcj,Kia,Kkz,Kpp,Kbf,Kbf,139,Kmn,Kbf,Kbf,139,Kcj,Kia,Kem,Kdg,Kdg,Kra,Kpy,Kia,Kra,Kra,Kjn,Kaf,Keg,Kdg,140,Kcj,140,Kew,Kjy,Kcv,Kcv,140,Kcj,Kqx,Kia,Kcj,140,Kdf,Kfz,Kfz,Kag,141,Kcc,Kcu,Kkf,Kag,141,Kag,Kla,Kaf,Keg,Kdg,140,Kba,Kia,Kiw,Kdp,Kdp,Kag,143,Kic,Krp,Kdg,Kql,Kjy,Kiw,Kdp,Kdp,Kag,143,Kic,Krp]) (fun f B T => vc (cNS w.params la ld k v tx i ln true 116) [2, 3] (n_ns_true' w b la ld k _ tx i ln 116 h0 (by decide)) rfl fun x1 => vc (cGt (i + 1 : Nat) (i + 1 : Nat) false) [] (n_gt w b _ _ _ (by simp)) rfl fun x2 => vc (cNS w.params la ld k (natAt [v 0, x1.2.2 2, v 2]) tx (i + 1) ln false 121) [7, 8] (n_ns_false' w b la ld k _ tx (i + 1) ln 121 h1 (by decide)) rfl fun x3 => vc (cGt ((i + 1) + 1 : Nat) ((i + 1) + 1 : Nat) false) [] (n_gt w b _ _ _ (by simp)) rfl fun x4 => vc (cNS w.params la ld k (natAt [v 0, x3.2.2 2, v 2]) tx (i + 2) ln false 112) [8, 9] (n_ns_false' w b la ld k _ tx (i + 2) ln 112 h2 (by decide)) rfl fun x5 => vc (cGt ((i + 2) + 1 : Nat) ((i + 2) + 1 : Nat) false) [] (n_gt w b _ _ _ (by simp)) rfl fun x6 => vc (cNS w.params la ld k (natAt [v 0, x5.2.2 2, v 2]) tx (i + 3) ln false 101) [9, 10] (n_ns_false' w b la ld k _ tx (i + 3) ln 101 h3 (by decide)) rfl fun x7 => vc (cGt ((i + 3) + 1 : Nat) ((i + 3) + 1 : Nat) false) [] (n_gt w b _ _ _ (by simp)) rfl fun x8 => vc (cNS w.params la ld k (natAt [v 0, x7.2.2 2, v 2]) tx (i + 4) ln false 111) [10, 11] (n_ns_false' w b la ld k _ tx (i + 4) ln 111 h4 (by decide)) rfl fun x9 => vc (cGt ((i + 4) + 1 : Nat) ((i + 4) + 1 : Nat) false) [] (n_gt w b _ _ _ (by simp)) rfl fun x10 => vc (cNS w.params la ld k (natAt [v 0, x9.2.2 2, v 2]) tx (i + 5) ln false 102) [11, 12] (n_ns_false' w b la ld k _ tx (i + 5) ln 102 h5 (by decide)) rfl fun x11 => vc (cGt ((i + 5) + 1 : Nat) ((i + 5) + 1 : Nat) false) [] (n_gt w b _ _ _ (by simp)) rfl fun x12 => vc (cNN w.params la ld k (natAt [v 0, x11.2.2 2, v 2]) tx (i + 6) ln false) [12, 13] (n_nn w b la ld k _ tx (i + 6) ln he) rfl fun x13 => vc (cKW (sC [116, 121, 112, 101, 111, 102]) true) [] (n_kw w b _ _ (by rfl')) rfl fun x14 => ve) fun f B T x1 x2 x3 x4 x5 x6 x7 x8 x9 x10 x11 x12 x13 x14 => ⟨natAt [(v 0), (x11.2.2 2), (v (0 + 1 + 1)), x14.2.1, (x13.2.1 + 2), (tv (0 + 1 + 1)), 0, (tv (0 + 1 + 1 + 1 + 1)), (tv (0 + 1 + 1 + 1 + 1 + 1)), 0, 0], by cases b <;> rfl'⟩
theorem n_rn_instanceof (w b) (la ld : Addr) (k v : Nat → Nat) (t td : Addr) (tk tv : Nat → Nat) (tx : Str) (i ln : Nat) (bh : Bool) (st : Nat)  (h0 : At tx i 105) (h1 : At tx (i + 1) 110) (h2 : At tx (i + 2) 115) (h3 : At tx (i + 3) 116) (h4 : At tx (i + 4) 97) (h5 : At tx (i + 5) 110) (h6 : At tx (i + 6) 99) (h7 : At tx (i + 7) 101) (h8 : At tx (i + 8) 111) (h9 : At tx (i + 9) 102) (he : Stops tx (i + 10)) : Nd w b (cRead 425 w.params la ld k v t td tk tv tx i ln bh st (i + 10) (Z "keyword") (sC [105, 110, 115, 116, 97, 110, 99, 101, 111, 102])) :=
  nr [17, 19] [] 1652 (Kk [Krd,Kel,Kfx,Kag,Kce,Kqp,Kgn,Kll,Kmb,Kfk,Keh,Kmf,Kip,128,Kmf,Kmb,Kqw,Kls,Kld,Kag,Kfg,Kaf,Kpl,Kaz,Koo,Kdh,Kda,Koj,Kmn,Koj,Koo,Kbz,Kcx,Kcx,Kmp,Kpz,138,Kfi,Kmp,Kag,Khh,Kaf,Kax,Kfy,Kqu,Kcf,Kjz,Kly,Kmn,Kly,Kqu,Kbq,Kbs,Kbs,Knv,Kqx,Kfs,Knv,Kag,Kko,Kaf,Kbf,Kpz,Kcj,138,Kii,Krc,Kax,Kax,138,Kcj,Kmg,138,Kcj,138,Kec,Kba,Kba,Knu,Knp,Kgt,Knu,Kag,Kkm,Kaf,Kpi,139,Kcj,Kia,Kkz,Kpp,Kbf,Kbf,139,Kmn,Kbf,Kbf,139,Kcj,Kia,Kem,Kdg,Kdg,Kra,Kpy,Kia,Kra,Kra,Kjn,Kaf,Keg,Kdg,140,Kcj,140,Kew,Kjy,Kcv,Kcv,140,Kcj,Kqx,Kia,Kcj,140,Kdf,Kfz,Kfz,Kag,141,Kcc,Kcu,Kkf,Kag,141,Kag,Kla,Kaf,Kcn,128,Kcn,Kcj,141,Kjj,Kaf,141,Keg,Keg,141,Kcj,Knp,Kkf,Kcj,141,Kiy,142,Kcc,Kcc,Kag,142,Kdp,Kfd,141,Kix,Kix,Kiy,Keb,Kaf,Kln,142,Kcj,Keb,Khx,Kag,Knm,Kaf,142,Kcn,Kcn,142,Kmn,Kcn,Kcn,142,Kcj,Keb,Khx,Kdp,Kdp,Kag,143,Kic,Krp,Keb,Kag,143,Kag,Kiw,144,Kaf,Kfd,Kdp,143,Kcj,Kpx,Kab,144,Kag,Krp,Kod,Kaf,143,Kcu,Kcu,143,Kcj,Kcc,Kcu,Keb,Kcj,Kpx,Kab,144,Kic,Kic,Kag,16400,Kpg,Kpx,Kag,144,Kag,144,Kab,Kjh,Kaf,Krp,Kic,144,Kcj,Kjh,Kmr,Kaf,144,Kfd,Kfd,144,Kcj,Kdp,Kfd,Kpx,Kcj,Kjh,Kab,145,Kod,128,Klj,16401,Kro,146,Kjh,Kag,Klj,145,Kab,Kes,Kaf,Krp,Kic,144,Kdp,Kpx,147,Kab,147,Kff,Kff,Kag,16403,Kjr,148,Kic,147,Kab,147,Kag,Kjg,Klu,Kaf,18832,Kab,147,Kff,Kff,Kag,16403,Kjr,148]) (fun f B T => vc (cNS w.params la ld k v tx i ln true 105) [2, 3] (n_ns_true' w b la ld k _ tx i ln 105 h0 (by decide)) rfl fun x1 => vc (cGt (i + 1 : Nat) (i + 1 : Nat) false) [] (n_gt w b _ _ _ (by simp)) rfl fun x2 => vc (cNS w.params la ld k (natAt [v 0, x1.2.2 2, v 2]) tx (i + 1) ln false 110) [7, 8] (n_ns_false' w b la ld k _ tx (i + 1) ln 110 h1 (by decide)) rfl fun x3 => vc (cGt ((i + 1) + 1 : Nat) ((i + 1) + 1 : Nat) false) [] (n_gt w b _ _ _ (by simp)) rfl fun x4 => vc (cNS w.params la ld k (natAt [v 0, x3.2.2 2, v 2]) tx (i + 2) ln false 115) [8, 9] (n_ns_false' w b la ld k _ tx (i + 2) ln 115 h2 (by decide)) rfl fun x5 => vc (cGt ((i + 2) + 1 : Nat) ((i + 2) + 1 : Nat) false) [] (n_gt w b _ _ _ (by simp)) rfl fun x6 => vc (cNS w.params la ld k (natAt [v 0, x5.2.2 2, v 2]) tx (i + 3) ln false 116) [9, 10] (n_ns_false' w b la ld k _ tx (i + 3) ln 116 h3 (by decide)) rfl fun x7 => vc (cGt ((i + 3) + 1 : Nat) ((i + 3) + 1 : Nat) false) [] (n_gt w b _ _ _ (by simp)) rfl fun x8 => vc (cNS w.params la ld k (natAt [v 0, x7.2.2 2, v 2]) tx (i + 4) ln false 97) [10, 11] (n_ns_false' w b la ld k _ tx (i + 4) ln 97 h4 (by decide)) rfl fun x9 => vc (cGt ((i + 4) + 1 : Nat) ((i + 4) + 1 : Nat) false) [] (n_gt w b _ _ _ (by simp)) rfl fun x10 => vc (cNS w.params la ld k (natAt [v 0, x9.2.2 2, v 2]) tx (i + 5) ln false 110) [11, 12] (n_ns_false' w b la ld k _ tx (i + 5) ln 110 h5 (by decide)) rfl fun x11 => vc (cGt ((i + 5) + 1 : Nat) ((i + 5) + 1 : Nat) false) [] (n_gt w b _ _ _ (by simp)) rfl fun x12 => vc (cNS w.params la ld k (natAt [v 0, x11.2.2 2, v 2]) tx (i + 6) ln false 99) [12, 13] (n_ns_false' w b la ld k _ tx (i + 6) ln 99 h6 (by decide)) rfl fun x13 => vc (cGt ((i + 6) + 1 : Nat) ((i + 6) + 1 : Nat) false) [] (n_gt w b _ _ _ (by simp)) rfl fun x14 => vc (cNS w.params la ld k (natAt [v 0, x13.2.2 2, v 2]) tx (i + 7) ln false 101) [13, 14] (n_ns_false' w b la ld k _ tx (i + 7) ln 101 h7 (by decide)) rfl fun x15 => vc (cGt ((i + 7) + 1 : Nat) ((i + 7) + 1 : Nat) false) [] (n_gt w b _ _ _ (by simp)) rfl fun x16 => vc (cNS w.params la ld k (natAt [v 0, x15.2.2 2, v 2]) tx (i + 8) ln false 111) [14, 15] (n_ns_false' w b la ld k _ tx (i + 8) ln 111 h8 (by decide)) rfl fun x17 => vc (cGt ((i + 8) + 1 : Nat) ((i + 8) + 1 : Nat) false) [] (n_gt w b _ _ _ (by simp)) rfl fun x18 => vc (cNS w.params la ld k (natAt [v 0, x17.2.2 2, v 2]) tx (i + 9) ln false 102) [15, 16] (n_ns_false' w b la ld k _ tx (i + 9) ln 102 h9 (by decide)) rfl fun x19 => vc (cGt ((i + 9) + 1 : Nat) ((i + 9) + 1 : Nat) false) [] (n_gt w b _ _ _ (by simp)) rfl fun x20 => vc (cNN w.params la ld k (natAt [v 0, x19.2.2 2, v 2]) tx (i + 10) ln false) [16, 17] (n_nn w b la ld k _ tx (i + 10) ln he) rfl fun x21 => vc (cKW (sC [105, 110, 115, 116, 97, 110, 99, 101, 111, 102]) true) [] (n_kw w b _ _ (by rfl')) rfl fun x22 => ve) fun f B T x1 x2 x3 x4 x5 x6 x7 x8 x9 x10 x11 x12 x13 x14 x15 x16 x17 x18 x19 x20 x21 x22 => ⟨natAt [(v 0), (x19.2.2 2), (v (0 + 1 + 1)), x22.2.1, (x21.2.1 + 2), (tv (0 + 1 + 1)), 0, (tv (0 + 1 + 1 + 1 + 1)), (tv (0 + 1 + 1 + 1 + 1 + 1)), 0, 0], by cases b <;> rfl'⟩
noncomputable def sliceO (i j : Int) (t u : Nat) : Obj := ⟨.type "slice", none, .fields #[.int i t, .int j u, .none], #[]⟩
noncomputable def cSl (a : Addr) (x : Str) (i j : Int) (t u : Nat) (p : Str) : Cn := { co := fun f => bcall "str.__getitem__" [.str x (f 0), .ref a], sl := [⟨a, sliceO i j t u, false⟩], res := fun y => okV (.str p (y 0)), pu := true, D := 0, U := 0 }
structure Piece (x : Str) (i j : Int) (p : Str) : Prop where
  whole : (PySem.Builtin.Str.strSliceIndices (some i) (some j) 1 x.length).length = x.length → x = p
  part : (PySem.Builtin.Str.strSliceIndices (some i) (some j) 1 x.length).filterMap (x.cps[·]?) = p.cps.toList
  small : p.length ≤ 4
theorem n_sl (w : World) (b : Bool) {ix : List Nat} (a : Addr) (x : Str) (i j : Int) (t u : Nat) (p : Str) (h : Piece x i j p) (I : IxOk (cSl a x i j t u p) ix) : Node (par w b 0 0) 0 0 XT ((cSl a x i j t u p).spec ix) :=
  node_pure ⟨.nil, fun _ h => nomatch h⟩ I rfl rfl (fun _ => rfl) (fun _ => rfl) fun f A s R _ own hR => by
    have ho := own _ (.head _)
    refine code_meets PySem.F.slot_str_getitem (typeIs_str s x (f 0)) PySem.F.entry_str_getitem (PySem.F.args_str_getitem_2 _ _) ((meets_str_getitem_slice x (f 0) a (some (i, t)) (some (j, u)) none rfl).inModel _ _) ⟨⟨_, ho, rfl, rfl⟩, ?_⟩
    unfold sliceMade
    show (if ((1 : Int) == 1 && (slicePicked x (some (i, t)) (some (j, u)) none).length == x.length) = true then _ else _ : Made).post _ _
    have e : slicePicked x (some (i, t)) (some (j, u)) none = PySem.Builtin.Str.strSliceIndices (some i) (some j) 1 x.length := rfl
    rw [e]
    split
    · rename_i q
      have q' : (PySem.Builtin.Str.strSliceIndices (some i) (some j) 1 x.length).length = x.length := by simpa using q
      have := h.whole q'
      rw [← this] at hR
      exact hR (fun _ => f 0) s.toks
    · refine ⟨?_, ?_⟩
      · show (List.toArray _).size ≤ sizeLine
        rw [h.part]
        have := h.small
        exact Nat.le_trans this (by decide)
      · rw [h.part]
        exact hR (fun _ => s.toks) _
noncomputable def cPA (tx : Str) (i : Nat) (p : Str) : Cn := { co := fun f => fcall 342 [.str tx (f 0), .int i (f 1)], sl := [], res := fun y => okV (.str p (y 0)), D := 8, U := 60 }
theorem n_pa4 (w b) (tx : Str) (i : Nat) (p : Str)  (h4 : Piece tx i (i + 4 : Nat) p) (g4 : (lookE p (esOf (ktOf w.params) 302)).isSome = true) : Nd w b (cPA tx i p) :=
  nr [] [] 89 (Kk [Kaa,Ken,Kpo,Kbm,Kac,Kal,Kal,Klc,Kkj,Kaa,Kny]) (fun f B T => vc (cSl (B + 3) tx i (i + 4 : Nat) (f 1) (T + 7) p) [0] (n_sl w b _ tx i (i + 4 : Nat) _ _ p h4) rfl fun x1 => vc (cInD 302 p true) [] (n_inD w b 302 _ (d302 w) (by decide) p _ g4) rfl fun x2 => ve) fun f B T x1 x2 => ⟨natAt [(x1.2.2 0)], by cases b <;> rfl'⟩
theorem n_pa3 (w b) (tx : Str) (i : Nat) (p : Str) (q4 : Str)  (h4 : Piece tx i (i + 4 : Nat) q4) (g4 : (lookE q4 (esOf (ktOf w.params) 302)).isSome = false) (h3 : Piece tx i (i + 3 : Nat) p) (g3 : (lookE p (esOf (ktOf w.params) 302)).isSome = true) : Nd w b (cPA tx i p) :=
  nr [] [] 141 (Kk [Kaa,Ken,Kpo,Kbm,Kac,Kal,Kal,Klc,Kkj,Kos,Kav,Kdt,Kel,Kan,Kft,Kft,Kft,Kaf,Kek,Kos,133]) (fun f B T => vc (cSl (B + 3) tx i (i + 4 : Nat) (f 1) (T + 7) q4) [0] (n_sl w b _ tx i (i + 4 : Nat) _ _ q4 h4) rfl fun x1 => vc (cInD 302 q4 false) [] (n_inD w b 302 _ (d302 w) (by decide) q4 _ g4) rfl fun x2 => vc (cSl (B + 4) tx i (i + 3 : Nat) (f 1) (x2.2.1 + 1) p) [0] (n_sl w b _ tx i (i + 3 : Nat) _ _ p h3) rfl fun x3 => vc (cInD 302 p true) [] (n_inD w b 302 _ (d302 w) (by decide) p _ g3) rfl fun x4 => ve) fun f B T x1 x2 x3 x4 => ⟨natAt [(x3.2.2 0)], by cases b <;> rfl'⟩
theorem n_pa2 (w b) (tx : Str) (i : Nat) (p : Str) (q4 : Str) (q3 : Str)  (h4 : Piece tx i (i + 4 : Nat) q4) (g4 : (lookE q4 (esOf (ktOf w.params) 302)).isSome = false) (h3 : Piece tx i (i + 3 : Nat) q3) (g3 : (lookE q3 (esOf (ktOf w.params) 302)).isSome = false) (h2 : Piece tx i (i + 2 : Nat) p) (g2 : (lookE p (esOf (ktOf w.params) 302)).isSome = true) : Nd w b (cPA tx i p) :=
  nr [] [] 193 (Kk [Kaa,Ken,Kpo,Kbm,Kac,Kal,Kal,Klc,Kkj,Kos,Kav,Kdt,Kel,Kan,Kft,Kft,Kft,Kaf,Kek,Kos,Kns,132,Kal,Khj,Kat,Kaf,Khv,Kos,134]) (fun f B T => vc (cSl (B + 3) tx i (i + 4 : Nat) (f 1) (T + 7) q4) [0] (n_sl w b _ tx i (i + 4 : Nat) _ _ q4 h4) rfl fun x1 => vc (cInD 302 q4 false) [] (n_inD w b 302 _ (d302 w) (by decide) q4 _ g4) rfl fun x2 => vc (cSl (B + 4) tx i (i + 3 : Nat) (f 1) (x2.2.1 + 1) q3) [0] (n_sl w b _ tx i (i + 3 : Nat) _ _ q3 h3) rfl fun x3 => vc (cInD 302 q3 false) [] (n_inD w b 302 _ (d302 w) (by decide) q3 _ g3) rfl fun x4 => vc (cSl (B + 5) tx i (i + 2 : Nat) (f 1) (x4.2.1 + 1) p) [0] (n_sl w b _ tx i (i + 2 : Nat) _ _ p h2) rfl fun x5 => vc (cInD 302 p true) [] (n_inD w b 302 _ (d302 w) (by decide) p _ g2) rfl fun x6 => ve) fun f B T x1 x2 x3 x4 x5 x6 => ⟨natAt [(x5.2.2 0)], by cases b <;> rfl'⟩
theorem n_pa1 (w b) (tx : Str) (i : Nat) (p : Str) (q4 : Str) (q3 : Str) (q2 : Str)  (h4 : Piece tx i (i + 4 : Nat) q4) (g4 : (lookE q4 (esOf (ktOf w.params) 302)).isSome = false) (h3 : Piece tx i (i + 3 : Nat) q3) (g3 : (lookE q3 (esOf (ktOf w.params) 302)).isSome = false) (h2 : Piece tx i (i + 2 : Nat) q2) (g2 : (lookE q2 (esOf (ktOf w.params) 302)).isSome = false) (h1 : Piece tx i (i + 1 : Nat) p) (g1 : (lookE p (esOf (ktOf w.params) 302)).isSome = true) : Nd w b (cPA tx i p) :=
  nr [] [] 245 (Kk [Kaa,Ken,Kpo,Kbm,Kac,Kal,Kal,Klc,Kkj,Kos,Kav,Kdt,Kel,Kan,Kft,Kft,Kft,Kaf,Kek,Kos,Kns,132,Kal,Khj,Kat,Kaf,Khv,Kos,128,Kay,Kkj,133,Kft,Kgf,Kas,Kaf,Kef,Kaa,Keh]) (fun f B T => vc (cSl (B + 3) tx i (i + 4 : Nat) (f 1) (T + 7) q4) [0] (n_sl w b _ tx i (i + 4 : Nat) _ _ q4 h4) rfl fun x1 => vc (cInD 302 q4 false) [] (n_inD w b 302 _ (d302 w) (by decide) q4 _ g4) rfl fun x2 => vc (cSl (B + 4) tx i (i + 3 : Nat) (f 1) (x2.2.1 + 1) q3) [0] (n_sl w b _ tx i (i + 3 : Nat) _ _ q3 h3) rfl fun x3 => vc (cInD 302 q3 false) [] (n_inD w b 302 _ (d302 w) (by decide) q3 _ g3) rfl fun x4 => vc (cSl (B + 5) tx i (i + 2 : Nat) (f 1) (x4.2.1 + 1) q2) [0] (n_sl w b _ tx i (i + 2 : Nat) _ _ q2 h2) rfl fun x5 => vc (cInD 302 q2 false) [] (n_inD w b 302 _ (d302 w) (by decide) q2 _ g2) rfl fun x6 => vc (cSl (B + 6) tx i (i + 1 : Nat) (f 1) (x6.2.1 + 1) p) [0] (n_sl w b _ tx i (i + 1 : Nat) _ _ p h1) rfl fun x7 => vc (cInD 302 p true) [] (n_inD w b 302 _ (d302 w) (by decide) p _ g1) rfl fun x8 => ve) fun f B T x1 x2 x3 x4 x5 x6 x7 x8 => ⟨natAt [(x7.2.2 0)], by cases b <;> rfl'⟩
noncomputable def isPunct (w : World) (q : Str) : Bool := (lookE q (esOf (ktOf w.params) 302)).isSome
inductive PunctFrom (w : World) (tx : Str) (i : Nat) (p : Str) : Nat → Prop
  | here {s : Nat} (h : Piece tx i (i + s : Nat) p) (g : isPunct w p = true) : PunctFrom w tx i p s
  | on {s : Nat} (q : Str) (h : Piece tx i (i + (s + 1) : Nat) q) (g : isPunct w q = false) (r : PunctFrom w tx i p s) : PunctFrom w tx i p (s + 1)
theorem PunctFrom.no {w : World} {tx : Str} {i : Nat} {p : Str} (h : PunctFrom w tx i p 0) (hp : ¬ ∃ h : Piece tx i (i + 0 : Nat) p, isPunct w p = true) : False := by
  cases h with
  | here h g => exact hp ⟨h, g⟩
theorem n_pa (w : World) (b : Bool) {tx : Str} {i : Nat} {p : Str} (h : PunctFrom w tx i p 4) (h0 : ¬ ∃ h : Piece tx i (i + 0 : Nat) p, isPunct w p = true) {ix : List Nat} (I : IxOk (cPA tx i p) ix) : Node (par w b 0 0) 0 0 XT ((cPA tx i p).spec ix) := by
  cases h with
  | here h4 g4 => exact n_pa4 w b tx i p h4 g4 I
  | on q4 h4 g4 r =>
    cases r with
    | here h3 g3 => exact n_pa3 w b tx i p q4 h4 g4 h3 g3 I
    | on q3 h3 g3 r =>
      cases r with
      | here h2 g2 => exact n_pa2 w b tx i p q4 q3 h4 g4 h3 g3 h2 g2 I
      | on q2 h2 g2 r =>
        cases r with
        | here h1 g1 => exact n_pa1 w b tx i p q4 q3 q2 h4 g4 h3 g3 h2 g2 h1 g1 I
        | on q1 h1 g1 r => exact (r.no h0).elim
theorem n_rp (w b) (la ld : Addr) (k v : Nat → Nat) (t td : Addr) (tk tv : Nat → Nat) (tx : Str) (i ln : Nat) (bh : Bool) (st : Nat) (p : Str) (h : PunctFrom w tx i p 4) (h0 : ¬ ∃ h : Piece tx i (i + 0 : Nat) p, isPunct w p = true) (hp : p.length < 2 ^ 63) : Nd w b (cRead 502 w.params la ld k v t td tk tv tx i ln bh st (i + p.length) (Z "punct") p) :=
  nr [2, 4] [] 186 (Kk [Kaa,Kfp,Khi,Kfv,Kpk,Kac,Kpk,Kfe,Key,128,Kdq]) (fun f B T => vc (cPA tx i p) [] (n_pa w b h h0) rfl fun x1 => vc (cLen p) [] (n_len w b p hp) rfl fun x2 => ve) fun f B T x1 x2 => ⟨natAt [(v 0), x2.2.1, (v (0 + 1 + 1)), (x1.2.1 + 1), (x1.2.2 0), (tv (0 + 1 + 1)), 0, (tv (0 + 1 + 1 + 1 + 1)), (tv (0 + 1 + 1 + 1 + 1 + 1)), 0, 0], by cases b <;> rfl'⟩
noncomputable def cNext (P : Params) (la ld : Addr) (k v : Nat → Nat) (tx : Str) (i ln : Nat) (kd vl : Str) (ln' : Nat) (bh : Bool) (st en : Nat) : Cn :=
  { co := fun _ => fcall 383 [.ref la], sl := slL P la ld tx i ln k v, res := fun y => okV (.ref (y 0)), upi := [1], upo := fun y _ => lexO P tx en ln' k (fun j => y (2 + j)), add := fun y => [(y 0, inst 324 (y 1)), (y 1, tokO P kd vl ln' bh st en (fun j => y (5 + j)) (fun j => y (13 + j)))], D := 40, U := 300 }
abbrev sN : Str := Z "name"
abbrev sK : Str := Z "keyword"
abbrev sP : Str := Z "punct"
theorem n_nx_end (w b) (la ld : Addr) (k v : Nat → Nat) (tx : Str) (i ln : Nat) (i' ln' : Nat) (bh : Bool) (hsk : ∀ {ix : List Nat}, IxOk (cSkip w.params la ld k v tx i ln i' ln' bh) ix → Node (par w b 0 0) 0 0 XT ((cSkip w.params la ld k v tx i ln i' ln' bh).spec ix)) (h0 : Off tx i') : Nd w b (cNext w.params la ld k v tx i ln sE s0 ln' bh i' i') :=
  nr [9] [1, 2] 526 (Kk [Kfh,Krq,Koq,Kop,Khi,Kak,Kmc,Khj,Kjs,Kfa,Kat,Kbo,Kgd,Kab,Kah,Khq,Kaq,Kaq,Kpe,Kpe,Khc,Kno,Kno,Kdq,Kdr,Kdv]) (fun f B T => vc (cSkip w.params la ld k v tx i ln i' ln' bh) [1, 2] hsk rfl fun x1 => vc (cAt tx i' (-1)) [] (n_off w b tx i' h0) rfl fun x2 => ve) fun f B T x1 x2 => ⟨natAt [(x2.1 + 5), (x2.1 + 4), (x1.2.2 0), (x1.2.2 (0 + 1)), (x1.2.2 (0 + 1 + 1)), (x2.2.1 + 13), (x2.2.1 + 15), (x2.2.1 + 17), (x2.2.1 + 19), (x2.2.1 + 21), (x2.2.1 + 23), (x2.2.1 + 25), (x2.2.1 + 27), (x2.2.1 + 2), (x2.2.1 + 3), (x1.2.2 (0 + 1 + 1)), 0, (x1.2.2 (0 + 1)), (x1.2.2 (0 + 1)), 0, 0], by cases b <;> rfl'⟩
theorem n_nx_name (w b) (la ld : Addr) (k v : Nat → Nat) (tx : Str) (i ln : Nat) (i' ln' : Nat) (bh : Bool) (c en : Nat) (kd vl : Str) (hsk : ∀ {ix : List Nat}, IxOk (cSkip w.params la ld k v tx i ln i' ln' bh) ix → Node (par w b 0 0) 0 0 XT ((cSkip w.params la ld k v tx i ln i' ln' bh).spec ix)) (hrd : ∀ (v : Nat → Nat) (t td : Addr) (tk tv : Nat → Nat) {ix : List Nat}, IxOk (cRead 425 w.params la ld k v t td tk tv tx i' ln' bh i' en kd vl) ix → Node (par w b 0 0) 0 0 XT ((cRead 425 w.params la ld k v t td tk tv tx i' ln' bh i' en kd vl).spec ix)) (h0 : At tx i' c) (h1 : decide ((c : Int) < 128) = true) (h2 : decide (65 ≤ (c : Int)) = true) (h3 : decide ((c : Int) ≤ 90) = false) (h4 : decide (97 ≤ (c : Int)) = true) (h5 : decide ((c : Int) ≤ 122) = true) : Nd w b (cNext w.params la ld k v tx i ln kd vl ln' bh i' en) :=
  nr [9] [1, 2] 606 (Kk [Kfh,Krq,Koq,Kop,Khi,Kak,Kmc,Khj,Kjs,Kfa,Kat,Kbo,Kgd,Kab,Kah,Khq,Kaq,Kaq,Kpe,Kpe,Khc,Kno,Kno,Kdq,Kdr,129,Kdv,Kda,137,Kmp,Kag,Khh,136,Kda,Kdh,136,Kdq,136]) (fun f B T => vc (cSkip w.params la ld k v tx i ln i' ln' bh) [1, 2] hsk rfl fun x1 => vc (cAt tx i' c) [] (n_at w b tx i' c h0) rfl fun x2 => vc (cLt c 0 false) [] (n_lt w b _ _ _ (by simp)) rfl fun x3 => vc (cIS c true) [] (n_is1 w b c h1 h2 h3 h4 h5) rfl fun x4 => vc (cRead 425 w.params la ld k (natAt [(x1.2.2 0), (x1.2.2 (0 + 1)), (x1.2.2 (0 + 1 + 1))]) (x2.1 + 5) (x2.1 + 4) (natAt [(x2.2.1 + 13), (x2.2.1 + 15), (x2.2.1 + 17), (x2.2.1 + 19), (x2.2.1 + 21), (x2.2.1 + 23), (x2.2.1 + 25), (x2.2.1 + 27)]) (natAt [(x2.2.1 + 2), (x2.2.1 + 3), (x1.2.2 (0 + 1 + 1)), 0, (x1.2.2 (0 + 1)), (x1.2.2 (0 + 1)), 0, 0]) tx i' ln' bh i' en kd vl) [8, 9, 1, 2] (hrd _ _ _ _ _) rfl fun x5 => ve) fun f B T x1 x2 x3 x4 x5 => ⟨natAt [(x2.1 + 5), (x2.1 + 4), (x5.2.2 0), (x5.2.2 (0 + 1)), (x5.2.2 (0 + 1 + 1)), (x2.2.1 + 13), (x2.2.1 + 15), (x2.2.1 + 17), (x2.2.1 + 19), (x2.2.1 + 21), (x2.2.1 + 23), (x2.2.1 + 25), (x2.2.1 + 27), (x5.2.2 (3 + 0)), (x5.2.2 (3 + (0 + 1))), (x5.2.2 (3 + (0 + 1 + 1))), 0, (x5.2.2 (3 + (0 + 1 + 1 + 1 + 1))), (x5.2.2 (0 + 1)), 0, 0], by cases b <;> rfl'⟩
theorem n_nx_punct (w b) (la ld : Addr) (k v : Nat → Nat) (tx : Str) (i ln : Nat) (i' ln' : Nat) (bh : Bool) (c en : Nat) (kd vl : Str) (hsk : ∀ {ix : List Nat}, IxOk (cSkip w.params la ld k v tx i ln i' ln' bh) ix → Node (par w b 0 0) 0 0 XT ((cSkip w.params la ld k v tx i ln i' ln' bh).spec ix)) (hrd : ∀ (v : Nat → Nat) (t td : Addr) (tk tv : Nat → Nat) {ix : List Nat}, IxOk (cRead 502 w.params la ld k v t td tk tv tx i' ln' bh i' en kd vl) ix → Node (par w b 0 0) 0 0 XT ((cRead 502 w.params la ld k v t td tk tv tx i' ln' bh i' en kd vl).spec ix)) (h0 : At tx i' c) (his : ∀ {ix : List Nat}, IxOk (cIS c false) ix → Node (par w b 0 0) 0 0 XT ((cIS c false).spec ix)) (hdg : ∀ {ix : List Nat}, IxOk (cDG c false) ix → Node (par w b 0 0) 0 0 XT ((cDG c false).spec ix)) (h1 : decide ((c : Int) = 92) = false) (h3 : decide ((c : Int) = 34) = false) (h4 : decide ((c : Int) = 39) = false) (h2 : decide ((c : Int) = 46) = false) : Nd w b (cNext w.params la ld k v tx i ln kd vl ln' bh i' en) :=
  nr [9] [1, 2] 641 (Kk [Kfh,Krq,Koq,Kop,Khi,Kak,Kmc,Khj,Kjs,Kfa,Kat,Kbo,Kgd,Kab,Kah,Khq,Kaq,Kaq,Kpe,Kpe,Khc,Kno,Kno,Kdq,Kdr,129,Kdv,Kda,129,Kdv,Kda,Kio,Kio,129,Kfi,Kmp,Kag,Khh,136,Kda,Kdh,136,Kdq,136]) (fun f B T => vc (cSkip w.params la ld k v tx i ln i' ln' bh) [1, 2] hsk rfl fun x1 => vc (cAt tx i' c) [] (n_at w b tx i' c h0) rfl fun x2 => vc (cLt c 0 false) [] (n_lt w b _ _ _ (by simp)) rfl fun x3 => vc (cIS c false) [] his rfl fun x4 => vc (cEqI c 92 false) [] (n_eqI w b _ _ _ h1) rfl fun x5 => vc (cDG c false) [] hdg rfl fun x6 => vc (cEqI c 46 false) [] (n_eqI w b _ _ _ h2) rfl fun x7 => vc (cEqI c 34 false) [] (n_eqI w b _ _ _ h3) rfl fun x8 => vc (cEqI c 39 false) [] (n_eqI w b _ _ _ h4) rfl fun x9 => vc (cRead 502 w.params la ld k (natAt [(x1.2.2 0), (x1.2.2 (0 + 1)), (x1.2.2 (0 + 1 + 1))]) (x2.1 + 5) (x2.1 + 4) (natAt [(x2.2.1 + 13), (x2.2.1 + 15), (x2.2.1 + 17), (x2.2.1 + 19), (x2.2.1 + 21), (x2.2.1 + 23), (x2.2.1 + 25), (x2.2.1 + 27)]) (natAt [(x2.2.1 + 2), (x2.2.1 + 3), (x1.2.2 (0 + 1 + 1)), 0, (x1.2.2 (0 + 1)), (x1.2.2 (0 + 1)), 0, 0]) tx i' ln' bh i' en kd vl) [8, 9, 1, 2] (hrd _ _ _ _ _) rfl fun x10 => ve) fun f B T x1 x2 x3 x4 x5 x6 x7 x8 x9 x10 => ⟨natAt [(x2.1 + 5), (x2.1 + 4), (x10.2.2 0), (x10.2.2 (0 + 1)), (x10.2.2 (0 + 1 + 1)), (x2.2.1 + 13), (x2.2.1 + 15), (x2.2.1 + 17), (x2.2.1 + 19), (x2.2.1 + 21), (x2.2.1 + 23), (x2.2.1 + 25), (x2.2.1 + 27), (x10.2.2 (3 + 0)), (x10.2.2 (3 + (0 + 1))), (x10.2.2 (3 + (0 + 1 + 1))), 0, (x10.2.2 (3 + (0 + 1 + 1 + 1 + 1))), (x10.2.2 (0 + 1)), 0, 0], by cases b <;> rfl'⟩
theorem n_nx_dot (w b) (la ld : Addr) (k v : Nat → Nat) (tx : Str) (i ln : Nat) (i' ln' : Nat) (bh : Bool) (en : Nat) (kd vl : Str) (c2 : Int) (hsk : ∀ {ix : List Nat}, IxOk (cSkip w.params la ld k v tx i ln i' ln' bh) ix → Node (par w b 0 0) 0 0 XT ((cSkip w.params la ld k v tx i ln i' ln' bh).spec ix)) (hrd : ∀ (v : Nat → Nat) (t td : Addr) (tk tv : Nat → Nat) {ix : List Nat}, IxOk (cRead 502 w.params la ld k v t td tk tv tx i' ln' bh i' en kd vl) ix → Node (par w b 0 0) 0 0 XT ((cRead 502 w.params la ld k v t td tk tv tx i' ln' bh i' en kd vl).spec ix)) (h0 : At tx i' 46) (h2 : Cat tx (i' + 1) c2) (hdg2 : ∀ {ix : List Nat}, IxOk (cDG c2 false) ix → Node (par w b 0 0) 0 0 XT ((cDG c2 false).spec ix)) : Nd w b (cNext w.params la ld k v tx i ln kd vl ln' bh i' en) :=
  nr [11] [3, 4] 767 (Kk [Kfh,Krq,Koq,Kop,Khi,Kak,Kmc,Khj,Kjs,Kfa,Kat,Kbo,Kgd,Kab,Kah,Khq,Kaq,Kaq,Kpe,Kpe,Khc,Kno,Kno,Kdq,Kdr,Kaa,136,Kaw,Kjp,Kjp,Kcx,Kaa,137,Kaw,Kbs,Knv,Kii,138,Kbn,Krc,Kbs,Kbs,139,Knu,Kag,Kkm,138,Krc,Kii,138,Kpk,138]) (fun f B T => vc (cSkip w.params la ld k v tx i ln i' ln' bh) [1, 2] hsk rfl fun x1 => vc (cAt tx i' 46) [] (n_at w b tx i' 46 h0) rfl fun x2 => vc (cAt tx (i' + 1) c2) [] (n_cat w b h2) rfl fun x3 => vc (cDG c2 false) [] hdg2 rfl fun x4 => vc (cRead 502 w.params la ld k (natAt [(x1.2.2 0), (x1.2.2 (0 + 1)), (x1.2.2 (0 + 1 + 1))]) (x2.1 + 5) (x2.1 + 4) (natAt [(x2.2.1 + 13), (x2.2.1 + 15), (x2.2.1 + 17), (x2.2.1 + 19), (x2.2.1 + 21), (x2.2.1 + 23), (x2.2.1 + 25), (x2.2.1 + 27)]) (natAt [(x2.2.1 + 2), (x2.2.1 + 3), (x1.2.2 (0 + 1 + 1)), 0, (x1.2.2 (0 + 1)), (x1.2.2 (0 + 1)), 0, 0]) tx i' ln' bh i' en kd vl) [10, 11, 3, 4] (hrd _ _ _ _ _) rfl fun x5 => ve) fun f B T x1 x2 x3 x4 x5 => ⟨natAt [(x2.1 + 5), (x2.1 + 4), (x5.2.2 0), (x5.2.2 (0 + 1)), (x5.2.2 (0 + 1 + 1)), (x2.2.1 + 13), (x2.2.1 + 15), (x2.2.1 + 17), (x2.2.1 + 19), (x2.2.1 + 21), (x2.2.1 + 23), (x2.2.1 + 25), (x2.2.1 + 27), (x5.2.2 (3 + 0)), (x5.2.2 (3 + (0 + 1))), (x5.2.2 (3 + (0 + 1 + 1))), 0, (x5.2.2 (3 + (0 + 1 + 1 + 1 + 1))), (x5.2.2 (0 + 1)), 0, 0], by cases b <;> rfl'⟩
structure Rd where
  P : Params
  p : Addr
  pd : Addr
  l : Addr
  ld : Addr
  j : Addr
  pe : Addr
  tx : Str
  pk : Nat → Nat
  k : Nat → Nat
structure Tk where
  kd : Str
  vl : Str
  ln : Nat
  bh : Bool
  st : Nat
  en : Nat
structure Cu where
  n : Int
  i : Nat
  ln : Nat
  pv : Nat → Nat
  v : Nat → Nat
  t : Addr
  td : Addr
  k : Tk
  tk : Nat → Nat
  tv : Nat → Nat
noncomputable def parO (P : Params) (l t j pe : Addr) (n : Int) (k v : Nat → Nat) : Obj := dF P (parL l t j pe n) k v
noncomputable def tkO (P : Params) (k : Tk) (tk tv : Nat → Nat) : Obj := tokO P k.kd k.vl k.ln k.bh k.st k.en tk tv
noncomputable def slP (R : Rd) (c : Cu) (u : Bool) : List Slot := [⟨R.p, inst 871 R.pd, false⟩, ⟨R.pd, parO R.P R.l c.t R.j R.pe c.n R.pk c.pv, u⟩]
noncomputable def slX (R : Rd) (c : Cu) : List Slot := [⟨R.l, inst 505 R.ld, false⟩, ⟨R.ld, lexO R.P R.tx c.i c.ln R.k c.v, true⟩]
noncomputable def slK (R : Rd) (c : Cu) : List Slot := [⟨c.t, inst 324 c.td, false⟩, ⟨c.td, tkO R.P c.k c.tk c.tv, false⟩]
noncomputable def slAll (R : Rd) (c : Cu) : List Slot := slP R c true ++ slX R c ++ slK R c
noncomputable def slRead (R : Rd) (c : Cu) : List Slot := slP R c false ++ slK R c
noncomputable def newTok (R : Rd) (k : Tk) (y : Nat → Nat) : List (Addr × Obj) := [(y 0, inst 324 (y 1)), (y 1, tkO R.P k (fun j => y (5 + j)) (fun j => y (13 + j)))]
noncomputable def upRd (R : Rd) (n : Int) (i ln : Nat) (y : Nat → Nat) (j : Nat) : Obj := match j with
  | 1 => parO R.P R.l (y 0) R.j R.pe n R.pk (fun j => y (21 + j))
  | _ => lexO R.P R.tx i ln R.k (fun j => y (2 + j))
noncomputable def cTake (R : Rd) (c : Cu) (k : Tk) : Cn := { co := fun _ => fcall 610 [.ref R.p], sl := slP R c true ++ slX R c, res := fun _ => okV (.ref c.t), upi := [1, 3], upo := upRd R c.n k.en k.ln, add := newTok R k, D := 48, U := 360 }
noncomputable def cSign (R : Rd) (c : Cu) (s : Str) (v : Bool) : Cn := { co := fun f => fcall 624 [.ref R.p, .str s (f 1)], sl := slRead R c, res := fun _ => okV (.bool v), D := 8, U := 60 }
noncomputable def cWord (R : Rd) (c : Cu) (s : Str) (v : Bool) : Cn := { co := fun f => fcall 631 [.ref R.p, .str s (f 1)], sl := slRead R c, res := fun _ => okV (.bool v), D := 8, U := 60 }
noncomputable def cEatN (R : Rd) (c : Cu) (s : Str) : Cn := { co := fun f => fcall 638 [.ref R.p, .str s (f 1)], sl := slRead R c, res := fun _ => okV (.bool false), D := 16, U := 120 }
noncomputable def cEatY (R : Rd) (c : Cu) (s : Str) (k : Tk) : Cn := { co := fun f => fcall 638 [.ref R.p, .str s (f 1)], sl := slAll R c, res := fun _ => okV (.bool true), upi := [1, 3], upo := upRd R c.n k.en k.ln, add := newTok R k, D := 56, U := 420 }
noncomputable def cNeed (R : Rd) (c : Cu) (s : Str) (k : Tk) : Cn := { co := fun f => fcall 645 [.ref R.p, .str s (f 1)], sl := slAll R c, res := fun _ => okV .none, upi := [1, 3], upo := upRd R c.n k.en k.ln, add := newTok R k, D := 64, U := 480 }
noncomputable def cGoIn (R : Rd) (c : Cu) : Cn := { co := fun f => fcall 680 [.ref R.p], sl := slP R c true, res := fun _ => okV .none, upi := [1], upo := fun y _ => parO R.P R.l c.t R.j R.pe (c.n + 1) R.pk y, D := 8, U := 60 }
noncomputable def cGoOut (R : Rd) (c : Cu) : Cn := { co := fun f => fcall 687 [.ref R.p], sl := slP R c true, res := fun _ => okV .none, upi := [1], upo := fun y _ => parO R.P R.l c.t R.j R.pe (c.n - 1) R.pk y, D := 8, U := 60 }
noncomputable def cPrio (R : Rd) (c : Cu) (can : Bool) (n : Int) : Cn := { co := fun f => fcall 784 [.ref R.p, .bool can], sl := slRead R c, res := fun y => okV (.int n (y 0)), D := 16, U := 120 }
theorem n_take (w b) (R : Rd) (c : Cu) (k : Tk) (hw : R.P = w.params) (hnx : ∀ {ix : List Nat}, IxOk (cNext R.P R.l R.ld R.k c.v R.tx c.i c.ln k.kd k.vl k.ln k.bh k.st k.en) ix → Node (par w b 0 0) 0 0 XT ((cNext R.P R.l R.ld R.k c.v R.tx c.i c.ln k.kd k.vl k.ln k.bh k.st k.en).spec ix)) : Nd w b (cTake R c k) :=
  nr [4, 6] [0, 1] 147 (Kk [Kfh,Kit,Kae,Kit,129,Kit,Kkr,Kkr,Kdw,Klp,Kob,Kay,Kay,Kbl,Kay,Kek,131]) (fun f B T => vc (cNext R.P R.l R.ld R.k c.v R.tx c.i c.ln k.kd k.vl k.ln k.bh k.st k.en) [3, 4] hnx rfl fun x1 => ve) fun f B T x1 => ⟨natAt [(x1.2.2 0), (x1.2.2 1), (x1.2.2 (2 + 0)), (x1.2.2 (2 + (0 + 1))), (x1.2.2 (2 + (0 + 1 + 1))), (x1.2.2 (5 + 0)), (x1.2.2 (5 + (0 + 1))), (x1.2.2 (5 + (0 + 1 + 1))), (x1.2.2 (5 + (0 + 1 + 1 + 1))), (x1.2.2 (5 + (0 + 1 + 1 + 1 + 1))), (x1.2.2 (5 + (0 + 1 + 1 + 1 + 1 + 1))), (x1.2.2 (5 + (0 + 1 + 1 + 1 + 1 + 1 + 1))), (x1.2.2 (5 + (0 + 1 + 1 + 1 + 1 + 1 + 1 + 1))), (x1.2.2 (13 + 0)), (x1.2.2 (13 + (0 + 1))), (x1.2.2 (13 + (0 + 1 + 1))), 0, (x1.2.2 (13 + (0 + 1 + 1 + 1 + 1))), (x1.2.2 (13 + (0 + 1 + 1 + 1 + 1 + 1))), 0, 0, 0, 0, 0, 0, (c.4 (0 + 1 + 1 + 1 + 1)), (c.4 (0 + 1 + 1 + 1 + 1 + 1)), 0, 0], by cases b <;> rfl'⟩
theorem n_sign0 (w b) (R : Rd) (c : Cu) (s : Str) (h1 : (c.k.kd.cps.toList == (Z "punct").cps.toList) = false) : Nd w b (cSign R c s false) :=
  nr [] [] 64 (Kk [Kqh,Kfn]) (fun f B T => vc (cStrEq c.k.kd (Z "punct") false) [] (n_str_eq w b _ _ _ h1) rfl fun x1 => ve) fun f B T x1 => ⟨natAt [], by cases b <;> rfl'⟩
theorem n_sign1 (w b) (R : Rd) (c : Cu) (s : Str) (v : Bool) (h1 : (c.k.kd.cps.toList == (Z "punct").cps.toList) = true) (h2 : (c.k.vl.cps.toList == s.cps.toList) = v) : Nd w b (cSign R c s v) :=
  nr [] [] 111 (Kk [Kqh,Kcq,Kak,Kit,Kcq,Kak]) (fun f B T => vc (cStrEq c.k.kd (Z "punct") true) [] (n_str_eq w b _ _ _ h1) rfl fun x1 => vc (cStrEq c.k.vl s v) [] (n_str_eq w b _ _ _ h2) rfl fun x2 => ve) fun f B T x1 x2 => ⟨natAt [], by cases b <;> rfl'⟩
theorem n_word0 (w b) (R : Rd) (c : Cu) (s : Str) (h1 : (c.k.kd.cps.toList == (Z "keyword").cps.toList) = false) : Nd w b (cWord R c s false) :=
  nr [] [] 64 (Kk [Kqh,Kfn]) (fun f B T => vc (cStrEq c.k.kd (Z "keyword") false) [] (n_str_eq w b _ _ _ h1) rfl fun x1 => ve) fun f B T x1 => ⟨natAt [], by cases b <;> rfl'⟩
theorem n_word_true (w b) (R : Rd) (c : Cu) (s : Str) (h1 : (c.k.kd.cps.toList == (Z "keyword").cps.toList) = true) (h2 : (c.k.vl.cps.toList == s.cps.toList) = true) : Nd w b (cWord R c s true) :=
  nr [] [] 154 (Kk [Kqh,Kcq,Kak,Kit,Kcq,Kbm,Kah,Kau,Kbg,Kcq]) (fun f B T => vc (cStrEq c.k.kd (Z "keyword") true) [] (n_str_eq w b _ _ _ h1) rfl fun x1 => vc (cStrEq c.k.vl s true) [] (n_str_eq w b _ _ _ h2) rfl fun x2 => ve) fun f B T x1 x2 => ⟨natAt [], by cases b <;> rfl'⟩
theorem n_word_false (w b) (R : Rd) (c : Cu) (s : Str) (h1 : (c.k.kd.cps.toList == (Z "keyword").cps.toList) = true) (h2 : (c.k.vl.cps.toList == s.cps.toList) = false) : Nd w b (cWord R c s false) :=
  nr [] [] 112 (Kk [Kqh,Kcq,Kak,Kit,Kcq,Kak]) (fun f B T => vc (cStrEq c.k.kd (Z "keyword") true) [] (n_str_eq w b _ _ _ h1) rfl fun x1 => vc (cStrEq c.k.vl s false) [] (n_str_eq w b _ _ _ h2) rfl fun x2 => ve) fun f B T x1 x2 => ⟨natAt [], by cases b <;> rfl'⟩
theorem n_eatN (w b) (R : Rd) (c : Cu) (s : Str) (hs : (∀ {ix : List Nat}, IxOk (cSign R c s false) ix → Node (par w b 0 0) 0 0 XT ((cSign R c s false).spec ix))) : Nd w b (cEatN R c s) :=
  nr [] [] 50 (Kk [Kid,129,Kaf]) (fun f B T => vc (cSign R c s false) [1, 2, 3, 4] hs rfl fun x1 => ve) fun f B T x1 => ⟨natAt [], by cases b <;> rfl'⟩
theorem n_eatY (w b) (R : Rd) (c : Cu) (s : Str) (k : Tk) (hs : (∀ {ix : List Nat}, IxOk (cSign R c s true) ix → Node (par w b 0 0) 0 0 XT ((cSign R c s true).spec ix))) (ht : (∀ {ix : List Nat}, IxOk (cTake R c k) ix → Node (par w b 0 0) 0 0 XT ((cTake R c k).spec ix))) : Nd w b (cEatY R c s k) :=
  nr [4, 6] [0, 1] 83 (Kk [Kid,129,Kgg,Kfm,Kaf]) (fun f B T => vc (cSign R c s true) [1, 2, 5, 6] hs rfl fun x1 => vc (cTake R c k) [1, 2, 3, 4] ht rfl fun x2 => ve) fun f B T x1 x2 => ⟨natAt [(x2.2.2 0), (x2.2.2 1), (x2.2.2 (2 + 0)), (x2.2.2 (2 + (0 + 1))), (x2.2.2 (2 + (0 + 1 + 1))), (x2.2.2 (5 + 0)), (x2.2.2 (5 + (0 + 1))), (x2.2.2 (5 + (0 + 1 + 1))), (x2.2.2 (5 + (0 + 1 + 1 + 1))), (x2.2.2 (5 + (0 + 1 + 1 + 1 + 1))), (x2.2.2 (5 + (0 + 1 + 1 + 1 + 1 + 1))), (x2.2.2 (5 + (0 + 1 + 1 + 1 + 1 + 1 + 1))), (x2.2.2 (5 + (0 + 1 + 1 + 1 + 1 + 1 + 1 + 1))), (x2.2.2 (13 + 0)), (x2.2.2 (13 + (0 + 1))), (x2.2.2 (13 + (0 + 1 + 1))), 0, (x2.2.2 (13 + (0 + 1 + 1 + 1 + 1))), (x2.2.2 (13 + (0 + 1 + 1 + 1 + 1 + 1))), 0, 0, 0, 0, 0, 0, (x2.2.2 (21 + (0 + 1 + 1 + 1 + 1))), (x2.2.2 (21 + (0 + 1 + 1 + 1 + 1 + 1))), 0, 0], by cases b <;> rfl'⟩
theorem n_need (w b) (R : Rd) (c : Cu) (s : Str) (k : Tk) (hs : (∀ {ix : List Nat}, IxOk (cEatY R c s k) ix → Node (par w b 0 0) 0 0 XT ((cEatY R c s k).spec ix))) : Nd w b (cNeed R c s k) :=
  nr [4, 6] [0, 1] 49 (Kk [Kid,129,Kaf]) (fun f B T => vc (cEatY R c s k) [1, 2, 3, 4, 5, 6] hs rfl fun x1 => ve) fun f B T x1 => ⟨natAt [(x1.2.2 0), (x1.2.2 1), (x1.2.2 (2 + 0)), (x1.2.2 (2 + (0 + 1))), (x1.2.2 (2 + (0 + 1 + 1))), (x1.2.2 (5 + 0)), (x1.2.2 (5 + (0 + 1))), (x1.2.2 (5 + (0 + 1 + 1))), (x1.2.2 (5 + (0 + 1 + 1 + 1))), (x1.2.2 (5 + (0 + 1 + 1 + 1 + 1))), (x1.2.2 (5 + (0 + 1 + 1 + 1 + 1 + 1))), (x1.2.2 (5 + (0 + 1 + 1 + 1 + 1 + 1 + 1))), (x1.2.2 (5 + (0 + 1 + 1 + 1 + 1 + 1 + 1 + 1))), (x1.2.2 (13 + 0)), (x1.2.2 (13 + (0 + 1))), (x1.2.2 (13 + (0 + 1 + 1))), 0, (x1.2.2 (13 + (0 + 1 + 1 + 1 + 1))), (x1.2.2 (13 + (0 + 1 + 1 + 1 + 1 + 1))), 0, 0, 0, 0, 0, 0, (x1.2.2 (21 + (0 + 1 + 1 + 1 + 1))), (x1.2.2 (21 + (0 + 1 + 1 + 1 + 1 + 1))), 0, 0], by cases b <;> rfl'⟩
theorem n_goIn (w b) (R : Rd) (c : Cu) (h : decide (c.n + 1 > 40) = false) : Nd w b (cGoIn R c) :=
  nr [2] [] 99 (Kk [Kfh,Kit,Kav,Kah,130,Kav,128,Kau,130,Kbi,129,Kit,Kaf]) (fun f B T => vc (cGt (c.n + 1) 40 false) [] (n_gt w b _ _ _ h) rfl fun x1 => ve) fun f B T x1 => ⟨natAt [0, 0, 0, 0, (c.4 (0 + 1 + 1 + 1 + 1)), (T + 3), 0, 0], by cases b <;> rfl'⟩
theorem n_goOut (w b) (R : Rd) (c : Cu) : Nd w b (cGoOut R c) :=
  nr [2] [] 70 (Kk [Kfh,Kit,Kav,Kah,130,Kav,128,Kau,130,Kbi]) (fun f B T => ve) fun f B T => ⟨natAt [0, 0, 0, 0, (c.4 (0 + 1 + 1 + 1 + 1)), (T + 3), 0, 0], by cases b <;> rfl'⟩
theorem n_prioP (w b) (R : Rd) (c : Cu) (can : Bool) (n : Int) (h1 : (c.k.kd.cps.toList == (Z "punct").cps.toList) = true) (h2 : getI (esOf (ktOf w.params) 730) c.k.vl = some n) : Nd w b (cPrio R c can n) :=
  nr [] [] 118 (Kk [Kqh,Kfn,Kad,129,Kit,Kfn]) (fun f B T => vc (cStrEq c.k.kd (Z "punct") true) [] (n_str_eq w b _ _ _ h1) rfl fun x1 => vc (cGetD 730 c.k.vl n) [] (n_getD w b 730 _ (d730 w) (by decide) _ _ h2) rfl fun x2 => ve) fun f B T x1 x2 => ⟨natAt [(x2.2.2 0)], by cases b <;> rfl'⟩
theorem n_prioI_false (w b) (R : Rd) (c : Cu) (h1 : (c.k.kd.cps.toList == (Z "punct").cps.toList) = false) (hs : (∀ {ix : List Nat}, IxOk (cWord R c (Z "in") true) ix → Node (par w b 0 0) 0 0 XT ((cWord R c (Z "in") true).spec ix))) : Nd w b (cPrio R c false 0) :=
  nr [] [] 100 (Kk [Kqh,Kcq,Kgg,Kfm,Kak]) (fun f B T => vc (cStrEq c.k.kd (Z "punct") false) [] (n_str_eq w b _ _ _ h1) rfl fun x1 => vc (cWord R c (Z "in") true) [1, 2, 3, 4] hs rfl fun x2 => ve) fun f B T x1 x2 => ⟨natAt [x2.2.1], by cases b <;> rfl'⟩
theorem n_prioO_false (w b) (R : Rd) (c : Cu) (can : Bool) (h1 : (c.k.kd.cps.toList == (Z "punct").cps.toList) = false) (hs : (∀ {ix : List Nat}, IxOk (cWord R c (Z "in") false) ix → Node (par w b 0 0) 0 0 XT ((cWord R c (Z "in") false).spec ix))) (ho : (∀ {ix : List Nat}, IxOk (cWord R c (Z "instanceof") false) ix → Node (par w b 0 0) 0 0 XT ((cWord R c (Z "instanceof") false).spec ix))) : Nd w b (cPrio R c can 0) :=
  nr [] [] 128 (Kk [Kqh,Kcq,Kgg,Kfm,Kgg,Kfm,Kaf]) (fun f B T => vc (cStrEq c.k.kd (Z "punct") false) [] (n_str_eq w b _ _ _ h1) rfl fun x1 => vc (cWord R c (Z "in") false) [1, 2, 3, 4] hs rfl fun x2 => vc (cWord R c (Z "instanceof") false) [1, 2, 3, 4] ho rfl fun x3 => ve) fun f B T x1 x2 x3 => ⟨natAt [x3.2.1], by cases b <;> rfl'⟩
noncomputable def cItD (d : Addr) (k : Str) (n : Int) : Cn := cVal (fun f => bcall "dict.__getitem__" [.ref d, .str k (f 1)]) fun y => .int n (y 0)
theorem n_itD (w : World) (b : Bool) {ix : List Nat} (d : Addr) (es : List DictEntry) (D : DictAt w d es) (k : Str) (n : Int) (h : ∃ t, lookE k es = some (.int n t)) (I : IxOk (cItD d k n) ix) : Node (par w b 0 0) 0 0 XT ((cItD d k n).spec ix) :=
  n_top I fun f A s R hK hR => by
    obtain ⟨t, h⟩ := h
    have hm := D.map (b := b) hK
    refine code_meets PySem.F.slot_dict_getitem hm.typeIs PySem.F.entry_dict_getitem (PySem.F.args_dict_getitem_2 _ _) (meets_dict_getitem (strKind pw (w.withFollow rowG b)) d (strKind_is _ _ k (f 1))) ⟨_, _, hm, h, ?_⟩
    exact hR (fun _ => t) _
noncomputable def nodeL (kd : Str) (ln : Int) (ps : Addr) : List (String × (Nat → Value)) := [("kind", fun t => .str kd t), ("line", fun t => .int ln t), ("parts", fun _ => .ref ps), ("scope", fun _ => .none)]
noncomputable def nodeO (P : Params) (kd : Str) (ln : Int) (ps : Addr) (k v : Nat → Nat) : Obj := dF P (nodeL kd ln ps) k v
noncomputable def listO (l : List Value) : Obj := ⟨.type "list", none, .seq l.toArray 0, #[]⟩
noncomputable def cNode (P : Params) (kd : Str) (ln : Int) (ps : Addr) : Cn := { co := fun f => fcall 38 [.str kd (f 0), .int ln (f 1), .ref ps], sl := [], res := fun y => okV (.ref (y 0)), add := fun y => [(y 0, inst 38 (y 1)), (y 1, nodeO P kd ln ps (fun j => y (2 + j)) (fun j => y (6 + j)))], D := 8, U := 60 }
theorem n_prioI_true (w b) (R : Rd) (c : Cu) (h1 : (c.k.kd.cps.toList == (Z "punct").cps.toList) = false) (hs : (∀ {ix : List Nat}, IxOk (cWord R c (Z "in") true) ix → Node (par w b 0 0) 0 0 XT ((cWord R c (Z "in") true).spec ix))) : Nd w b (cPrio R c true 7) :=
  nr [] [] 107 (Kk [Kqh,Kcq,Kgg,Kfm,Kak,Kpr]) (fun f B T => vc (cStrEq c.k.kd (Z "punct") false) [] (n_str_eq w b _ _ _ h1) rfl fun x1 => vc (cWord R c (Z "in") true) [1, 2, 3, 4] hs rfl fun x2 => vc (cItD 730 (Z "in") 7) [] (n_itD w b 730 _ (d730 w) _ _ ⟨1391, by rfl'⟩) rfl fun x3 => ve) fun f B T x1 x2 x3 => ⟨natAt [(x3.2.2 0)], by cases b <;> rfl'⟩
theorem n_prioO_true (w b) (R : Rd) (c : Cu) (can : Bool) (h1 : (c.k.kd.cps.toList == (Z "punct").cps.toList) = false) (hs : (∀ {ix : List Nat}, IxOk (cWord R c (Z "in") false) ix → Node (par w b 0 0) 0 0 XT ((cWord R c (Z "in") false).spec ix))) (ho : (∀ {ix : List Nat}, IxOk (cWord R c (Z "instanceof") true) ix → Node (par w b 0 0) 0 0 XT ((cWord R c (Z "instanceof") true).spec ix))) : Nd w b (cPrio R c can 7) :=
  nr [] [] 135 (Kk [Kqh,Kcq,Kgg,Kfm,Kgg,Kfm,Kcs,129]) (fun f B T => vc (cStrEq c.k.kd (Z "punct") false) [] (n_str_eq w b _ _ _ h1) rfl fun x1 => vc (cWord R c (Z "in") false) [1, 2, 3, 4] hs rfl fun x2 => vc (cWord R c (Z "instanceof") true) [1, 2, 3, 4] ho rfl fun x3 => vc (cItD 730 (Z "instanceof") 7) [] (n_itD w b 730 _ (d730 w) _ _ ⟨1388, by rfl'⟩) rfl fun x4 => ve) fun f B T x1 x2 x3 x4 => ⟨natAt [(x4.2.2 0)], by cases b <;> rfl'⟩
theorem n_node (w b) (kd : Str) (ln : Int) (ps : Addr) : Nd w b (cNode w.params kd ln ps) :=
  nr [] [1, 2] 181 (Kk [Kgd,Kab,Kah,Kaf,Kcs,Kfb,Ken,Kpe,Kno,Kdq]) (fun f B T => ve) fun f B T => ⟨natAt [(B + 1), B, (T + 5), (T + 7), (T + 9), (T + 11), (f 0), (f 1), 0, 0], by cases b <;> rfl'⟩
theorem n_nodeP (w : World) (b : Bool) {ix : List Nat} {P : Params} (hw : P = w.params) (kd : Str) (ln : Int) (ps : Addr) (I : IxOk (cNode P kd ln ps) ix) : Node (par w b 0 0) 0 0 XT ((cNode P kd ln ps).spec ix) := by
  subst hw; exact n_node w b kd ln ps I
noncomputable def cStrNe (x y : Str) (v : Bool) : Cn := cVal (fun f => bcall "str.__ne__" [.str x (f 0), .str y (f 1)]) fun _ => .bool v
theorem n_str_ne (w : World) (b : Bool) {ix : List Nat} (x y : Str) (v : Bool) (h : (x.cps.toList == y.cps.toList) = !v) (I : IxOk (cStrNe x y v) ix) : Node (par w b 0 0) 0 0 XT ((cStrNe x y v).spec ix) :=
  n_val I fun f A s R hR => code_slot PySem.F.slot_str_ne (typeIs_str s x (f 0)) PySem.F.entry_str_ne (PySem.F.args_str_ne_2 _ _) (gives_str_ne x y (f 0) (f 1)) (by
    have e : (x.cps.toList != y.cps.toList) = v := by unfold bne; rw [h]; cases v <;> rfl
    show R (.ok (.ret (.bool (x.cps.toList != y.cps.toList)))) s
    rw [e]; exact hR (fun _ => 0) s.toks)
noncomputable def Cu.as (c : Cu) (kd vl : Str) : Cu := { c with k := { c.k with kd := kd, vl := vl } }
noncomputable def nodeAt (P : Params) (kd : Str) (ln : Int) (y : Nat → Nat) (i : Nat) : List (Addr × Obj) := [(y i, inst 38 (y (i + 1))), (y (i + 1), nodeO P kd ln (y (i + 2)) (fun j => y (i + 3 + j)) (fun j => y (i + 7 + j)))]
noncomputable def cUnN (R : Rd) (c : Cu) (k : Tk) : Cn := { co := fun _ => fcall 798 [.ref R.p], sl := slAll R c, res := fun y => okV (.ref (y 29)), upi := [1, 3], upo := upRd R c.n k.en k.ln, add := fun y => newTok R k y ++ nodeAt R.P (Z "Name") c.k.ln y 29 ++ [(y 31, listO [.str c.k.vl (y 40)])], D := 104, U := 780 }
theorem n_un0 (w b) (R : Rd) (c : Cu) (vl : Str) (k : Tk) (hw : R.P = w.params) (ht : (∀ {ix : List Nat}, IxOk (cTake R (c.as sN vl) k) ix → Node (par w b 0 0) 0 0 XT ((cTake R (c.as sN vl) k).spec ix))) (h1 : (k.kd.cps.toList == (Z "punct").cps.toList) = false) : Nd w b (cUnN R (c.as sN vl) k) :=
  nr [14, 16] [4, 5, 1, 2, 3] 868 (Kk [Kfh,Kit,Kae,Kfa,Kaf,Kfa,Kar,Kfa,128,Kdx,Kdd,Kaw,Kee,Kaw,Ked,129,Kdo,Kob,17028,Kak,Ked,Kpm,Kdh,Kbn,Kdh,129,Kfo,Klt,133,Kib,Kjb,Kcf,Kbn,Khg,Kha,134,Koa,Kjb,Kcf,Kaf,Kjb,Kch,Knr,Khd,Kaf,Kjj,Knc,Kig,Kak,Kig,Kak,Kpi,Kig,Kpp,Kqr,142,Kah,Kej,142,Kdp,Kdn,Kjy]) (fun f B T => vc (cWord R (c.as sN vl) (Z "new") false) [3, 4, 7, 8] (n_word0 w b R _ _ (by rfl')) rfl fun x1 => vc (cTake R (c.as sN vl) k) [7, 8, 9, 10] ht rfl fun x2 => vc (cNode R.P (Z "Name") c.k.ln x2.1) [] (n_nodeP w b hw _ _ _) rfl fun x3 => vc (cSign R ⟨c.n, k.en, k.ln, natAt [0, 0, 0, 0, (x2.2.2 (21 + (0 + 1 + 1 + 1 + 1))), (x2.2.2 (21 + (0 + 1 + 1 + 1 + 1 + 1))), 0, 0], natAt [(x2.2.2 (2 + 0)), (x2.2.2 (2 + (0 + 1))), (x2.2.2 (2 + (0 + 1 + 1)))], (x2.2.2 0), (x2.2.2 1), k, natAt [(x2.2.2 (5 + 0)), (x2.2.2 (5 + (0 + 1))), (x2.2.2 (5 + (0 + 1 + 1))), (x2.2.2 (5 + (0 + 1 + 1 + 1))), (x2.2.2 (5 + (0 + 1 + 1 + 1 + 1))), (x2.2.2 (5 + (0 + 1 + 1 + 1 + 1 + 1))), (x2.2.2 (5 + (0 + 1 + 1 + 1 + 1 + 1 + 1))), (x2.2.2 (5 + (0 + 1 + 1 + 1 + 1 + 1 + 1 + 1)))], natAt [(x2.2.2 (13 + 0)), (x2.2.2 (13 + (0 + 1))), (x2.2.2 (13 + (0 + 1 + 1))), 0, (x2.2.2 (13 + (0 + 1 + 1 + 1 + 1))), (x2.2.2 (13 + (0 + 1 + 1 + 1 + 1 + 1))), 0, 0]⟩ (Z ".") false) [13, 14, 4, 5] (n_sign0 w b R _ _ h1) rfl fun x4 => vc (cSign R ⟨c.n, k.en, k.ln, natAt [0, 0, 0, 0, (x2.2.2 (21 + (0 + 1 + 1 + 1 + 1))), (x2.2.2 (21 + (0 + 1 + 1 + 1 + 1 + 1))), 0, 0], natAt [(x2.2.2 (2 + 0)), (x2.2.2 (2 + (0 + 1))), (x2.2.2 (2 + (0 + 1 + 1)))], (x2.2.2 0), (x2.2.2 1), k, natAt [(x2.2.2 (5 + 0)), (x2.2.2 (5 + (0 + 1))), (x2.2.2 (5 + (0 + 1 + 1))), (x2.2.2 (5 + (0 + 1 + 1 + 1))), (x2.2.2 (5 + (0 + 1 + 1 + 1 + 1))), (x2.2.2 (5 + (0 + 1 + 1 + 1 + 1 + 1))), (x2.2.2 (5 + (0 + 1 + 1 + 1 + 1 + 1 + 1))), (x2.2.2 (5 + (0 + 1 + 1 + 1 + 1 + 1 + 1 + 1)))], natAt [(x2.2.2 (13 + 0)), (x2.2.2 (13 + (0 + 1))), (x2.2.2 (13 + (0 + 1 + 1))), 0, (x2.2.2 (13 + (0 + 1 + 1 + 1 + 1))), (x2.2.2 (13 + (0 + 1 + 1 + 1 + 1 + 1))), 0, 0]⟩ (Z "[") false) [13, 14, 4, 5] (n_sign0 w b R _ _ h1) rfl fun x5 => vc (cSign R ⟨c.n, k.en, k.ln, natAt [0, 0, 0, 0, (x2.2.2 (21 + (0 + 1 + 1 + 1 + 1))), (x2.2.2 (21 + (0 + 1 + 1 + 1 + 1 + 1))), 0, 0], natAt [(x2.2.2 (2 + 0)), (x2.2.2 (2 + (0 + 1))), (x2.2.2 (2 + (0 + 1 + 1)))], (x2.2.2 0), (x2.2.2 1), k, natAt [(x2.2.2 (5 + 0)), (x2.2.2 (5 + (0 + 1))), (x2.2.2 (5 + (0 + 1 + 1))), (x2.2.2 (5 + (0 + 1 + 1 + 1))), (x2.2.2 (5 + (0 + 1 + 1 + 1 + 1))), (x2.2.2 (5 + (0 + 1 + 1 + 1 + 1 + 1))), (x2.2.2 (5 + (0 + 1 + 1 + 1 + 1 + 1 + 1))), (x2.2.2 (5 + (0 + 1 + 1 + 1 + 1 + 1 + 1 + 1)))], natAt [(x2.2.2 (13 + 0)), (x2.2.2 (13 + (0 + 1))), (x2.2.2 (13 + (0 + 1 + 1))), 0, (x2.2.2 (13 + (0 + 1 + 1 + 1 + 1))), (x2.2.2 (13 + (0 + 1 + 1 + 1 + 1 + 1))), 0, 0]⟩ (Z "(") false) [13, 14, 4, 5] (n_sign0 w b R _ _ h1) rfl fun x6 => vc (cStrNe k.kd (Z "punct") true) [] (n_str_ne w b _ _ _ h1) rfl fun x7 => ve) fun f B T x1 x2 x3 x4 x5 x6 x7 => ⟨natAt [(x2.2.2 0), (x2.2.2 1), (x2.2.2 (2 + 0)), (x2.2.2 (2 + (0 + 1))), (x2.2.2 (2 + (0 + 1 + 1))), (x2.2.2 (5 + 0)), (x2.2.2 (5 + (0 + 1))), (x2.2.2 (5 + (0 + 1 + 1))), (x2.2.2 (5 + (0 + 1 + 1 + 1))), (x2.2.2 (5 + (0 + 1 + 1 + 1 + 1))), (x2.2.2 (5 + (0 + 1 + 1 + 1 + 1 + 1))), (x2.2.2 (5 + (0 + 1 + 1 + 1 + 1 + 1 + 1))), (x2.2.2 (5 + (0 + 1 + 1 + 1 + 1 + 1 + 1 + 1))), (x2.2.2 (13 + 0)), (x2.2.2 (13 + (0 + 1))), (x2.2.2 (13 + (0 + 1 + 1))), 0, (x2.2.2 (13 + (0 + 1 + 1 + 1 + 1))), (x2.2.2 (13 + (0 + 1 + 1 + 1 + 1 + 1))), 0, 0, 0, 0, 0, 0, (x2.2.2 (21 + (0 + 1 + 1 + 1 + 1))), (x2.2.2 (21 + (0 + 1 + 1 + 1 + 1 + 1))), 0, 0, (x3.2.2 0), (x3.2.2 1), x2.1, (x3.2.2 (2 + 0)), (x3.2.2 (2 + (0 + 1))), (x3.2.2 (2 + (0 + 1 + 1))), (x3.2.2 (2 + (0 + 1 + 1 + 1))), (x3.2.2 (6 + 0)), (x3.2.2 (6 + (0 + 1))), 0, 0, (c.10 (0 + 1))], by cases b <;> rfl'⟩
theorem n_un1 (w b) (R : Rd) (c : Cu) (vl : Str) (k : Tk) (hw : R.P = w.params) (ht : (∀ {ix : List Nat}, IxOk (cTake R (c.as sN vl) k) ix → Node (par w b 0 0) 0 0 XT ((cTake R (c.as sN vl) k).spec ix))) (h1 : (k.kd.cps.toList == (Z "punct").cps.toList) = true) (h2 : (k.vl.cps.toList == (Z ".").cps.toList) = false) (h3 : (k.vl.cps.toList == (Z "[").cps.toList) = false) (h4 : (k.vl.cps.toList == (Z "(").cps.toList) = false) (h5 : inS "tuple" (ktOf w.params) 735 k.vl = some false) : Nd w b (cUnN R (c.as sN vl) k) :=
  nr [14, 16] [4, 5, 1, 2, 3] 916 (Kk [Kfh,Kit,Kae,Kfa,Kaf,Kfa,Kar,Kfa,128,Kdx,Kdd,Kaw,Kee,Kaw,Ked,129,Kdo,Kob,17028,Kak,Ked,Kpm,Kdh,Kbn,Kdh,129,Kfo,Klt,133,Kib,Kjb,Kcf,Kbn,Khg,Kha,134,Koa,Kjb,Kcf,Kaf,Kjb,Kch,Knr,Khd,Kaf,Kjj,Knc,Kig,Kak,Kig,Kak,Kpi,Kig,Kpp,Kqr,142,Kah,Kej,142,Kdp,Kdn,Kjy,142,Kah,Kej,142,Kdp,Kdn,Kpr,140]) (fun f B T => vc (cWord R (c.as sN vl) (Z "new") false) [3, 4, 7, 8] (n_word0 w b R _ _ (by rfl')) rfl fun x1 => vc (cTake R (c.as sN vl) k) [7, 8, 9, 10] ht rfl fun x2 => vc (cNode R.P (Z "Name") c.k.ln x2.1) [] (n_nodeP w b hw _ _ _) rfl fun x3 => vc (cSign R ⟨c.n, k.en, k.ln, natAt [0, 0, 0, 0, (x2.2.2 (21 + (0 + 1 + 1 + 1 + 1))), (x2.2.2 (21 + (0 + 1 + 1 + 1 + 1 + 1))), 0, 0], natAt [(x2.2.2 (2 + 0)), (x2.2.2 (2 + (0 + 1))), (x2.2.2 (2 + (0 + 1 + 1)))], (x2.2.2 0), (x2.2.2 1), k, natAt [(x2.2.2 (5 + 0)), (x2.2.2 (5 + (0 + 1))), (x2.2.2 (5 + (0 + 1 + 1))), (x2.2.2 (5 + (0 + 1 + 1 + 1))), (x2.2.2 (5 + (0 + 1 + 1 + 1 + 1))), (x2.2.2 (5 + (0 + 1 + 1 + 1 + 1 + 1))), (x2.2.2 (5 + (0 + 1 + 1 + 1 + 1 + 1 + 1))), (x2.2.2 (5 + (0 + 1 + 1 + 1 + 1 + 1 + 1 + 1)))], natAt [(x2.2.2 (13 + 0)), (x2.2.2 (13 + (0 + 1))), (x2.2.2 (13 + (0 + 1 + 1))), 0, (x2.2.2 (13 + (0 + 1 + 1 + 1 + 1))), (x2.2.2 (13 + (0 + 1 + 1 + 1 + 1 + 1))), 0, 0]⟩ (Z ".") false) [13, 14, 4, 5] (n_sign1 w b R _ _ _ h1 h2) rfl fun x4 => vc (cSign R ⟨c.n, k.en, k.ln, natAt [0, 0, 0, 0, (x2.2.2 (21 + (0 + 1 + 1 + 1 + 1))), (x2.2.2 (21 + (0 + 1 + 1 + 1 + 1 + 1))), 0, 0], natAt [(x2.2.2 (2 + 0)), (x2.2.2 (2 + (0 + 1))), (x2.2.2 (2 + (0 + 1 + 1)))], (x2.2.2 0), (x2.2.2 1), k, natAt [(x2.2.2 (5 + 0)), (x2.2.2 (5 + (0 + 1))), (x2.2.2 (5 + (0 + 1 + 1))), (x2.2.2 (5 + (0 + 1 + 1 + 1))), (x2.2.2 (5 + (0 + 1 + 1 + 1 + 1))), (x2.2.2 (5 + (0 + 1 + 1 + 1 + 1 + 1))), (x2.2.2 (5 + (0 + 1 + 1 + 1 + 1 + 1 + 1))), (x2.2.2 (5 + (0 + 1 + 1 + 1 + 1 + 1 + 1 + 1)))], natAt [(x2.2.2 (13 + 0)), (x2.2.2 (13 + (0 + 1))), (x2.2.2 (13 + (0 + 1 + 1))), 0, (x2.2.2 (13 + (0 + 1 + 1 + 1 + 1))), (x2.2.2 (13 + (0 + 1 + 1 + 1 + 1 + 1))), 0, 0]⟩ (Z "[") false) [13, 14, 4, 5] (n_sign1 w b R _ _ _ h1 h3) rfl fun x5 => vc (cSign R ⟨c.n, k.en, k.ln, natAt [0, 0, 0, 0, (x2.2.2 (21 + (0 + 1 + 1 + 1 + 1))), (x2.2.2 (21 + (0 + 1 + 1 + 1 + 1 + 1))), 0, 0], natAt [(x2.2.2 (2 + 0)), (x2.2.2 (2 + (0 + 1))), (x2.2.2 (2 + (0 + 1 + 1)))], (x2.2.2 0), (x2.2.2 1), k, natAt [(x2.2.2 (5 + 0)), (x2.2.2 (5 + (0 + 1))), (x2.2.2 (5 + (0 + 1 + 1))), (x2.2.2 (5 + (0 + 1 + 1 + 1))), (x2.2.2 (5 + (0 + 1 + 1 + 1 + 1))), (x2.2.2 (5 + (0 + 1 + 1 + 1 + 1 + 1))), (x2.2.2 (5 + (0 + 1 + 1 + 1 + 1 + 1 + 1))), (x2.2.2 (5 + (0 + 1 + 1 + 1 + 1 + 1 + 1 + 1)))], natAt [(x2.2.2 (13 + 0)), (x2.2.2 (13 + (0 + 1))), (x2.2.2 (13 + (0 + 1 + 1))), 0, (x2.2.2 (13 + (0 + 1 + 1 + 1 + 1))), (x2.2.2 (13 + (0 + 1 + 1 + 1 + 1 + 1))), 0, 0]⟩ (Z "(") false) [13, 14, 4, 5] (n_sign1 w b R _ _ _ h1 h4) rfl fun x6 => vc (cStrNe k.kd (Z "punct") false) [] (n_str_ne w b _ _ _ h1) rfl fun x7 => vc (cInT 735 k.vl false) [] (n_inT w b 735 _ _ h5) rfl fun x8 => ve) fun f B T x1 x2 x3 x4 x5 x6 x7 x8 => ⟨natAt [(x2.2.2 0), (x2.2.2 1), (x2.2.2 (2 + 0)), (x2.2.2 (2 + (0 + 1))), (x2.2.2 (2 + (0 + 1 + 1))), (x2.2.2 (5 + 0)), (x2.2.2 (5 + (0 + 1))), (x2.2.2 (5 + (0 + 1 + 1))), (x2.2.2 (5 + (0 + 1 + 1 + 1))), (x2.2.2 (5 + (0 + 1 + 1 + 1 + 1))), (x2.2.2 (5 + (0 + 1 + 1 + 1 + 1 + 1))), (x2.2.2 (5 + (0 + 1 + 1 + 1 + 1 + 1 + 1))), (x2.2.2 (5 + (0 + 1 + 1 + 1 + 1 + 1 + 1 + 1))), (x2.2.2 (13 + 0)), (x2.2.2 (13 + (0 + 1))), (x2.2.2 (13 + (0 + 1 + 1))), 0, (x2.2.2 (13 + (0 + 1 + 1 + 1 + 1))), (x2.2.2 (13 + (0 + 1 + 1 + 1 + 1 + 1))), 0, 0, 0, 0, 0, 0, (x2.2.2 (21 + (0 + 1 + 1 + 1 + 1))), (x2.2.2 (21 + (0 + 1 + 1 + 1 + 1 + 1))), 0, 0, (x3.2.2 0), (x3.2.2 1), x2.1, (x3.2.2 (2 + 0)), (x3.2.2 (2 + (0 + 1))), (x3.2.2 (2 + (0 + 1 + 1))), (x3.2.2 (2 + (0 + 1 + 1 + 1))), (x3.2.2 (6 + 0)), (x3.2.2 (6 + (0 + 1))), 0, 0, (c.10 (0 + 1))], by cases b <;> rfl'⟩
noncomputable def cGoOut' (R : Rd) (c : Cu) (n : Int) : Cn := { co := fun f => fcall 687 [.ref R.p], sl := slP R c true, res := fun _ => okV .none, upi := [1], upo := fun y _ => parO R.P R.l c.t R.j R.pe n R.pk y, D := 8, U := 60 }
theorem n_goOut' (w : World) (b : Bool) (R : Rd) (c : Cu) (n : Int) (h : c.n - 1 = n) {ix : List Nat} (I : IxOk (cGoOut' R c n) ix) : Node (par w b 0 0) 0 0 XT ((cGoOut' R c n).spec ix) := by
  subst h; exact n_goOut w b R c I
noncomputable def addName (R : Rd) (vl : Str) (ln : Nat) (k : Tk) (y : Nat → Nat) : List (Addr × Obj) := newTok R k y ++ nodeAt R.P (Z "Name") ln y 29 ++ [(y 31, listO [.str vl (y 40)])]
noncomputable def cAsN (R : Rd) (c : Cu) (k : Tk) (can : Bool) : Cn := { co := fun _ => fcall 763 [.ref R.p, .bool can], sl := slAll R c, res := fun y => okV (.ref (y 29)), upi := [1, 3], upo := upRd R c.n k.en k.ln, add := addName R c.k.vl c.k.ln k, D := 128, U := 960 }
noncomputable def cBiN (R : Rd) (c : Cu) (k : Tk) (least : Int) (can : Bool) : Cn := { co := fun f => fcall 791 [.ref R.p, .int least (f 1), .bool can], sl := slAll R c, res := fun y => okV (.ref (y 29)), upi := [1, 3], upo := upRd R c.n k.en k.ln, add := addName R c.k.vl c.k.ln k, D := 112, U := 840 }
theorem n_biN (w b) (R : Rd) (c : Cu) (vl : Str) (k : Tk) (can : Bool) (least n : Int) (hu : (∀ {ix : List Nat}, IxOk (cUnN R (c.as sN vl) k) ix → Node (par w b 0 0) 0 0 XT ((cUnN R (c.as sN vl) k).spec ix))) (hp : ∀ c2 : Cu, c2.k = k → (∀ {ix : List Nat}, IxOk (cPrio R c2 can n) ix → Node (par w b 0 0) 0 0 XT ((cPrio R c2 can n).spec ix))) (hl : decide (n ≥ least) = false) : Nd w b (cBiN R (c.as sN vl) k least can) :=
  nr [7, 9] [0, 1, 2, 3, 4] 95 (Kk [Kaa,Kbv,Kcb,Kdd,Kdy,Kht,Kdi]) (fun f B T => vc (cUnN R (c.as sN vl) k) [1, 2, 3, 4, 5, 6] hu rfl fun x1 => vc (cPrio R ⟨c.n, k.en, k.ln, natAt [0, 0, 0, 0, (x1.2.2 (21 + (0 + 1 + 1 + 1 + 1))), (x1.2.2 (21 + (0 + 1 + 1 + 1 + 1 + 1))), 0, 0], natAt [(x1.2.2 (2 + 0)), (x1.2.2 (2 + (0 + 1))), (x1.2.2 (2 + (0 + 1 + 1)))], (x1.2.2 0), (x1.2.2 1), k, natAt [(x1.2.2 (5 + 0)), (x1.2.2 (5 + (0 + 1))), (x1.2.2 (5 + (0 + 1 + 1))), (x1.2.2 (5 + (0 + 1 + 1 + 1))), (x1.2.2 (5 + (0 + 1 + 1 + 1 + 1))), (x1.2.2 (5 + (0 + 1 + 1 + 1 + 1 + 1))), (x1.2.2 (5 + (0 + 1 + 1 + 1 + 1 + 1 + 1))), (x1.2.2 (5 + (0 + 1 + 1 + 1 + 1 + 1 + 1 + 1)))], natAt [(x1.2.2 (13 + 0)), (x1.2.2 (13 + (0 + 1))), (x1.2.2 (13 + (0 + 1 + 1))), 0, (x1.2.2 (13 + (0 + 1 + 1 + 1 + 1))), (x1.2.2 (13 + (0 + 1 + 1 + 1 + 1 + 1))), 0, 0]⟩ can n) [6, 7, 0, 1] (fun {_} I => by refine hp _ ?_ I <;> rfl) rfl fun x2 => vc (cGe n least false) [] (n_ge w b _ _ _ hl) rfl fun x3 => ve) fun f B T x1 x2 x3 => ⟨natAt [(x1.2.2 0), (x1.2.2 1), (x1.2.2 (2 + 0)), (x1.2.2 (2 + (0 + 1))), (x1.2.2 (2 + (0 + 1 + 1))), (x1.2.2 (5 + 0)), (x1.2.2 (5 + (0 + 1))), (x1.2.2 (5 + (0 + 1 + 1))), (x1.2.2 (5 + (0 + 1 + 1 + 1))), (x1.2.2 (5 + (0 + 1 + 1 + 1 + 1))), (x1.2.2 (5 + (0 + 1 + 1 + 1 + 1 + 1))), (x1.2.2 (5 + (0 + 1 + 1 + 1 + 1 + 1 + 1))), (x1.2.2 (5 + (0 + 1 + 1 + 1 + 1 + 1 + 1 + 1))), (x1.2.2 (13 + 0)), (x1.2.2 (13 + (0 + 1))), (x1.2.2 (13 + (0 + 1 + 1))), 0, (x1.2.2 (13 + (0 + 1 + 1 + 1 + 1))), (x1.2.2 (13 + (0 + 1 + 1 + 1 + 1 + 1))), 0, 0, 0, 0, 0, 0, (x1.2.2 (21 + (0 + 1 + 1 + 1 + 1))), (x1.2.2 (21 + (0 + 1 + 1 + 1 + 1 + 1))), 0, 0, (x1.2.2 29), (x1.2.2 (29 + 1)), (x1.2.2 (29 + 2)), (x1.2.2 (29 + 3 + 0)), (x1.2.2 (29 + 3 + (0 + 1))), (x1.2.2 (29 + 3 + (0 + 1 + 1))), (x1.2.2 (29 + 3 + (0 + 1 + 1 + 1))), (x1.2.2 (29 + 7 + 0)), (x1.2.2 (29 + 7 + (0 + 1))), 0, 0, (x1.2.2 40)], by cases b <;> rfl'⟩
theorem n_asN0 (w b) (R : Rd) (c : Cu) (vl : Str) (k : Tk) (can : Bool) (hn : decide (c.n + 1 > 40) = false) (hu : ∀ c2 : Cu, c2.k = (c.as sN vl).k → c2.i = c.i → (∀ {ix : List Nat}, IxOk (cBiN R c2 k 1 can) ix → Node (par w b 0 0) 0 0 XT ((cBiN R c2 k 1 can).spec ix))) (he : ∀ c2 : Cu, c2.k = k → (∀ {ix : List Nat}, IxOk (cEatN R c2 (Z "?")) ix → Node (par w b 0 0) 0 0 XT ((cEatN R c2 (Z "?")).spec ix))) (h1 : (k.kd.cps.toList == (Z "punct").cps.toList) = false) : Nd w b (cAsN R (c.as sN vl) k can) :=
  nr [8, 10] [0, 1, 2, 3, 4] 251 (Kk [Kja,129,Kaf,Khv,Khd,Kaf,134,Kef,Kqq,Kih,Keh,Khd,Keh]) (fun f B T => vc (cGoIn R (c.as sN vl)) [1, 2] (n_goIn w b R _ hn) rfl fun x1 => vc (cBiN R ⟨(c.n + 1), c.i, c.ln, natAt [0, 0, 0, 0, (x1.2.2 (0 + 1 + 1 + 1 + 1)), (x1.2.2 (0 + 1 + 1 + 1 + 1 + 1)), 0, 0], natAt [(c.5 0), (c.5 (0 + 1)), (c.5 (0 + 1 + 1))], c.6, c.7, (c.as sN vl).k, natAt [(c.9 0), (c.9 (0 + 1)), (c.9 (0 + 1 + 1)), (c.9 (0 + 1 + 1 + 1)), (c.9 (0 + 1 + 1 + 1 + 1)), (c.9 (0 + 1 + 1 + 1 + 1 + 1)), (c.9 (0 + 1 + 1 + 1 + 1 + 1 + 1)), (c.9 (0 + 1 + 1 + 1 + 1 + 1 + 1 + 1))], natAt [(c.10 0), (c.10 (0 + 1)), (c.10 (0 + 1 + 1)), 0, (c.10 (0 + 1 + 1 + 1 + 1)), (c.10 (0 + 1 + 1 + 1 + 1 + 1)), 0, 0]⟩ k 1 can) [2, 3, 4, 5, 6, 7] (fun {_} I => by refine hu _ ?_ ?_ I <;> rfl) rfl fun x2 => vc (cEatN R ⟨(c.n + 1), k.en, k.ln, natAt [0, 0, 0, 0, (x2.2.2 (21 + (0 + 1 + 1 + 1 + 1))), (x2.2.2 (21 + (0 + 1 + 1 + 1 + 1 + 1))), 0, 0], natAt [(x2.2.2 (2 + 0)), (x2.2.2 (2 + (0 + 1))), (x2.2.2 (2 + (0 + 1 + 1)))], (x2.2.2 0), (x2.2.2 1), k, natAt [(x2.2.2 (5 + 0)), (x2.2.2 (5 + (0 + 1))), (x2.2.2 (5 + (0 + 1 + 1))), (x2.2.2 (5 + (0 + 1 + 1 + 1))), (x2.2.2 (5 + (0 + 1 + 1 + 1 + 1))), (x2.2.2 (5 + (0 + 1 + 1 + 1 + 1 + 1))), (x2.2.2 (5 + (0 + 1 + 1 + 1 + 1 + 1 + 1))), (x2.2.2 (5 + (0 + 1 + 1 + 1 + 1 + 1 + 1 + 1)))], natAt [(x2.2.2 (13 + 0)), (x2.2.2 (13 + (0 + 1))), (x2.2.2 (13 + (0 + 1 + 1))), 0, (x2.2.2 (13 + (0 + 1 + 1 + 1 + 1))), (x2.2.2 (13 + (0 + 1 + 1 + 1 + 1 + 1))), 0, 0]⟩ (Z "?")) [7, 8, 0, 1] (fun {_} I => by refine he _ ?_ I <;> rfl) rfl fun x3 => vc (cStrEq k.kd (Z "punct") false) [] (n_str_eq w b _ _ _ h1) rfl fun x4 => vc (cGoOut' R ⟨(c.n + 1), k.en, k.ln, natAt [0, 0, 0, 0, (x2.2.2 (21 + (0 + 1 + 1 + 1 + 1))), (x2.2.2 (21 + (0 + 1 + 1 + 1 + 1 + 1))), 0, 0], natAt [(x2.2.2 (2 + 0)), (x2.2.2 (2 + (0 + 1))), (x2.2.2 (2 + (0 + 1 + 1)))], (x2.2.2 0), (x2.2.2 1), k, natAt [(x2.2.2 (5 + 0)), (x2.2.2 (5 + (0 + 1))), (x2.2.2 (5 + (0 + 1 + 1))), (x2.2.2 (5 + (0 + 1 + 1 + 1))), (x2.2.2 (5 + (0 + 1 + 1 + 1 + 1))), (x2.2.2 (5 + (0 + 1 + 1 + 1 + 1 + 1))), (x2.2.2 (5 + (0 + 1 + 1 + 1 + 1 + 1 + 1))), (x2.2.2 (5 + (0 + 1 + 1 + 1 + 1 + 1 + 1 + 1)))], natAt [(x2.2.2 (13 + 0)), (x2.2.2 (13 + (0 + 1))), (x2.2.2 (13 + (0 + 1 + 1))), 0, (x2.2.2 (13 + (0 + 1 + 1 + 1 + 1))), (x2.2.2 (13 + (0 + 1 + 1 + 1 + 1 + 1))), 0, 0]⟩ c.n) [7, 8] (n_goOut' w b R _ _ (by show c.n + 1 - 1 = c.n; omega)) rfl fun x5 => ve) fun f B T x1 x2 x3 x4 x5 => ⟨natAt [(x2.2.2 0), (x2.2.2 1), (x2.2.2 (2 + 0)), (x2.2.2 (2 + (0 + 1))), (x2.2.2 (2 + (0 + 1 + 1))), (x2.2.2 (5 + 0)), (x2.2.2 (5 + (0 + 1))), (x2.2.2 (5 + (0 + 1 + 1))), (x2.2.2 (5 + (0 + 1 + 1 + 1))), (x2.2.2 (5 + (0 + 1 + 1 + 1 + 1))), (x2.2.2 (5 + (0 + 1 + 1 + 1 + 1 + 1))), (x2.2.2 (5 + (0 + 1 + 1 + 1 + 1 + 1 + 1))), (x2.2.2 (5 + (0 + 1 + 1 + 1 + 1 + 1 + 1 + 1))), (x2.2.2 (13 + 0)), (x2.2.2 (13 + (0 + 1))), (x2.2.2 (13 + (0 + 1 + 1))), 0, (x2.2.2 (13 + (0 + 1 + 1 + 1 + 1))), (x2.2.2 (13 + (0 + 1 + 1 + 1 + 1 + 1))), 0, 0, 0, 0, 0, 0, (x5.2.2 (0 + 1 + 1 + 1 + 1)), (x5.2.2 (0 + 1 + 1 + 1 + 1 + 1)), 0, 0, (x2.2.2 29), (x2.2.2 (29 + 1)), (x2.2.2 (29 + 2)), (x2.2.2 (29 + 3 + 0)), (x2.2.2 (29 + 3 + (0 + 1))), (x2.2.2 (29 + 3 + (0 + 1 + 1))), (x2.2.2 (29 + 3 + (0 + 1 + 1 + 1))), (x2.2.2 (29 + 7 + 0)), (x2.2.2 (29 + 7 + (0 + 1))), 0, 0, (x2.2.2 40)], by cases b <;> rfl'⟩
theorem n_asN1 (w b) (R : Rd) (c : Cu) (vl : Str) (k : Tk) (can : Bool) (hn : decide (c.n + 1 > 40) = false) (hu : ∀ c2 : Cu, c2.k = (c.as sN vl).k → c2.i = c.i → (∀ {ix : List Nat}, IxOk (cBiN R c2 k 1 can) ix → Node (par w b 0 0) 0 0 XT ((cBiN R c2 k 1 can).spec ix))) (he : ∀ c2 : Cu, c2.k = k → (∀ {ix : List Nat}, IxOk (cEatN R c2 (Z "?")) ix → Node (par w b 0 0) 0 0 XT ((cEatN R c2 (Z "?")).spec ix))) (h1 : (k.kd.cps.toList == (Z "punct").cps.toList) = true) (h2 : inS "tuple" (ktOf w.params) 732 k.vl = some false) : Nd w b (cAsN R (c.as sN vl) k can) :=
  nr [8, 10] [0, 1, 2, 3, 4] 299 (Kk [Kja,129,Kaf,Khv,Khd,Kaf,134,Kef,Kqq,Kih,Keh,Kqq,Kao,129,Kdb,Kkt,17281,Khd,Keh]) (fun f B T => vc (cGoIn R (c.as sN vl)) [1, 2] (n_goIn w b R _ hn) rfl fun x1 => vc (cBiN R ⟨(c.n + 1), c.i, c.ln, natAt [0, 0, 0, 0, (x1.2.2 (0 + 1 + 1 + 1 + 1)), (x1.2.2 (0 + 1 + 1 + 1 + 1 + 1)), 0, 0], natAt [(c.5 0), (c.5 (0 + 1)), (c.5 (0 + 1 + 1))], c.6, c.7, (c.as sN vl).k, natAt [(c.9 0), (c.9 (0 + 1)), (c.9 (0 + 1 + 1)), (c.9 (0 + 1 + 1 + 1)), (c.9 (0 + 1 + 1 + 1 + 1)), (c.9 (0 + 1 + 1 + 1 + 1 + 1)), (c.9 (0 + 1 + 1 + 1 + 1 + 1 + 1)), (c.9 (0 + 1 + 1 + 1 + 1 + 1 + 1 + 1))], natAt [(c.10 0), (c.10 (0 + 1)), (c.10 (0 + 1 + 1)), 0, (c.10 (0 + 1 + 1 + 1 + 1)), (c.10 (0 + 1 + 1 + 1 + 1 + 1)), 0, 0]⟩ k 1 can) [2, 3, 4, 5, 6, 7] (fun {_} I => by refine hu _ ?_ ?_ I <;> rfl) rfl fun x2 => vc (cEatN R ⟨(c.n + 1), k.en, k.ln, natAt [0, 0, 0, 0, (x2.2.2 (21 + (0 + 1 + 1 + 1 + 1))), (x2.2.2 (21 + (0 + 1 + 1 + 1 + 1 + 1))), 0, 0], natAt [(x2.2.2 (2 + 0)), (x2.2.2 (2 + (0 + 1))), (x2.2.2 (2 + (0 + 1 + 1)))], (x2.2.2 0), (x2.2.2 1), k, natAt [(x2.2.2 (5 + 0)), (x2.2.2 (5 + (0 + 1))), (x2.2.2 (5 + (0 + 1 + 1))), (x2.2.2 (5 + (0 + 1 + 1 + 1))), (x2.2.2 (5 + (0 + 1 + 1 + 1 + 1))), (x2.2.2 (5 + (0 + 1 + 1 + 1 + 1 + 1))), (x2.2.2 (5 + (0 + 1 + 1 + 1 + 1 + 1 + 1))), (x2.2.2 (5 + (0 + 1 + 1 + 1 + 1 + 1 + 1 + 1)))], natAt [(x2.2.2 (13 + 0)), (x2.2.2 (13 + (0 + 1))), (x2.2.2 (13 + (0 + 1 + 1))), 0, (x2.2.2 (13 + (0 + 1 + 1 + 1 + 1))), (x2.2.2 (13 + (0 + 1 + 1 + 1 + 1 + 1))), 0, 0]⟩ (Z "?")) [7, 8, 0, 1] (fun {_} I => by refine he _ ?_ I <;> rfl) rfl fun x3 => vc (cStrEq k.kd (Z "punct") true) [] (n_str_eq w b _ _ _ h1) rfl fun x4 => vc (cInT 732 k.vl false) [] (n_inT w b 732 _ _ h2) rfl fun x5 => vc (cGoOut' R ⟨(c.n + 1), k.en, k.ln, natAt [0, 0, 0, 0, (x2.2.2 (21 + (0 + 1 + 1 + 1 + 1))), (x2.2.2 (21 + (0 + 1 + 1 + 1 + 1 + 1))), 0, 0], natAt [(x2.2.2 (2 + 0)), (x2.2.2 (2 + (0 + 1))), (x2.2.2 (2 + (0 + 1 + 1)))], (x2.2.2 0), (x2.2.2 1), k, natAt [(x2.2.2 (5 + 0)), (x2.2.2 (5 + (0 + 1))), (x2.2.2 (5 + (0 + 1 + 1))), (x2.2.2 (5 + (0 + 1 + 1 + 1))), (x2.2.2 (5 + (0 + 1 + 1 + 1 + 1))), (x2.2.2 (5 + (0 + 1 + 1 + 1 + 1 + 1))), (x2.2.2 (5 + (0 + 1 + 1 + 1 + 1 + 1 + 1))), (x2.2.2 (5 + (0 + 1 + 1 + 1 + 1 + 1 + 1 + 1)))], natAt [(x2.2.2 (13 + 0)), (x2.2.2 (13 + (0 + 1))), (x2.2.2 (13 + (0 + 1 + 1))), 0, (x2.2.2 (13 + (0 + 1 + 1 + 1 + 1))), (x2.2.2 (13 + (0 + 1 + 1 + 1 + 1 + 1))), 0, 0]⟩ c.n) [7, 8] (n_goOut' w b R _ _ (by show c.n + 1 - 1 = c.n; omega)) rfl fun x6 => ve) fun f B T x1 x2 x3 x4 x5 x6 => ⟨natAt [(x2.2.2 0), (x2.2.2 1), (x2.2.2 (2 + 0)), (x2.2.2 (2 + (0 + 1))), (x2.2.2 (2 + (0 + 1 + 1))), (x2.2.2 (5 + 0)), (x2.2.2 (5 + (0 + 1))), (x2.2.2 (5 + (0 + 1 + 1))), (x2.2.2 (5 + (0 + 1 + 1 + 1))), (x2.2.2 (5 + (0 + 1 + 1 + 1 + 1))), (x2.2.2 (5 + (0 + 1 + 1 + 1 + 1 + 1))), (x2.2.2 (5 + (0 + 1 + 1 + 1 + 1 + 1 + 1))), (x2.2.2 (5 + (0 + 1 + 1 + 1 + 1 + 1 + 1 + 1))), (x2.2.2 (13 + 0)), (x2.2.2 (13 + (0 + 1))), (x2.2.2 (13 + (0 + 1 + 1))), 0, (x2.2.2 (13 + (0 + 1 + 1 + 1 + 1))), (x2.2.2 (13 + (0 + 1 + 1 + 1 + 1 + 1))), 0, 0, 0, 0, 0, 0, (x6.2.2 (0 + 1 + 1 + 1 + 1)), (x6.2.2 (0 + 1 + 1 + 1 + 1 + 1)), 0, 0, (x2.2.2 29), (x2.2.2 (29 + 1)), (x2.2.2 (29 + 2)), (x2.2.2 (29 + 3 + 0)), (x2.2.2 (29 + 3 + (0 + 1))), (x2.2.2 (29 + 3 + (0 + 1 + 1))), (x2.2.2 (29 + 3 + (0 + 1 + 1 + 1))), (x2.2.2 (29 + 7 + 0)), (x2.2.2 (29 + 7 + (0 + 1))), 0, 0, (x2.2.2 40)], by cases b <;> rfl'⟩
noncomputable def rdOf (P : Params) (tx : Str) (y : Nat → Nat) : Rd := ⟨P, y 41, y 42, y 43, y 44, y 45, y 46, tx, fun j => y (47 + j), fun j => y (55 + j)⟩
noncomputable def cuOf (k : Tk) (y : Nat → Nat) : Cu := ⟨0, k.en, k.ln, fun j => y (21 + j), fun j => y (2 + j), y 0, y 1, k, fun j => y (5 + j), fun j => y (13 + j)⟩
noncomputable def pairs (l : List Slot) : List (Addr × Obj) := l.map fun s => (s.a, s.o)
noncomputable def cInit (P : Params) (tx : Str) (k : Tk) : Cn := { co := fun f => fcall 871 [.str tx (f 0)], sl := [], res := fun y => okV (.ref (y 41)), add := fun y => pairs (slAll (rdOf P tx y) (cuOf k y)), au := true, D := 56, U := 420 }
theorem n_init (w b) (tx : Str) (k : Tk) (hnx : ∀ (la ld : Addr) (kk v : Nat → Nat), (∀ {ix : List Nat}, IxOk (cNext w.params la ld kk v tx 0 1 k.kd k.vl k.ln k.bh k.st k.en) ix → Node (par w b 0 0) 0 0 XT ((cNext w.params la ld kk v tx 0 1 k.kd k.vl k.ln k.bh k.st k.en).spec ix))) : Nd w b (cInit w.params tx k) :=
  nr [] [11, 12, 8, 9, 5, 6] 654 (Kk [Kiq,Kad,Kgu,Kad,Kfp,Kiq,Kah,Kgu,Kag,Ken,Kno,Kno,Kdq,132,Klt,133,Kjs,128,Kcg,16389,Khv,132,Klt,Kcg,Kat,Kbc,Krq,Kaf,17286,Kah,135,Kcm,Kcm,Kcl,128,Kdr,17286,Kah,135,Kcm,Kcm,Kcl,128,Kdr,17286,Kah,135,Kcm,Kcm,Kcl,128,Kdr,17286,Kah,135,Kcm,Kcm,Kcl,128,Kdr,17286,Kah,135,Kcm,Kcm,Kcl,128,Kaz,Kbx,Kgd,Kah,Kgu,Kdb,130,Kik,128,Kkj,130,Kik,128,Kkj,130,Kik,128,Kkj,Kgt,Kah,139,Kba,Kba,Kad,139,Knp,Kia,Kah,140,Kdg,Kdg,Kct,Kpy]) (fun f B T => vc (cNext w.params (B + 4) (B + 3) (natAt [(T + 5), (T + 8), (T + 11)]) (natAt [(f 0), (T + 6), (T + 9)]) tx 0 1 k.kd k.vl k.ln k.bh k.st k.en) [1, 2] (hnx _ _ _ _) rfl fun x1 => ve) fun f B T x1 => ⟨natAt [(x1.2.2 0), (x1.2.2 1), (x1.2.2 (2 + 0)), (x1.2.2 (2 + (0 + 1))), (x1.2.2 (2 + (0 + 1 + 1))), (x1.2.2 (5 + 0)), (x1.2.2 (5 + (0 + 1))), (x1.2.2 (5 + (0 + 1 + 1))), (x1.2.2 (5 + (0 + 1 + 1 + 1))), (x1.2.2 (5 + (0 + 1 + 1 + 1 + 1))), (x1.2.2 (5 + (0 + 1 + 1 + 1 + 1 + 1))), (x1.2.2 (5 + (0 + 1 + 1 + 1 + 1 + 1 + 1))), (x1.2.2 (5 + (0 + 1 + 1 + 1 + 1 + 1 + 1 + 1))), (x1.2.2 (13 + 0)), (x1.2.2 (13 + (0 + 1))), (x1.2.2 (13 + (0 + 1 + 1))), 0, (x1.2.2 (13 + (0 + 1 + 1 + 1 + 1))), (x1.2.2 (13 + (0 + 1 + 1 + 1 + 1 + 1))), 0, 0, 0, 0, 0, 0, (x1.2.1 + 6), (x1.2.1 + 9), 0, 0, 0, 0, 0, 0, 0, 0, 0, 0, 0, 0, 0, 0, (B + 1), B, (B + 4), (B + 3), (x1.1 + 1), (x1.1 + 4), (T + 13), (x1.2.1 + 1), (x1.2.1 + 3), (x1.2.1 + 5), (x1.2.1 + 8), (x1.2.1 + 11), (x1.2.1 + 22), (x1.2.1 + 24), (T + 5), (T + 8), (T + 11)], by cases b <;> rfl'⟩
noncomputable def listN (l : List Value) (n : Nat) : Obj := ⟨.type "list", none, .seq l.toArray n, #[]⟩
inductive Tr where
  | str (s : Str)
  | lst (l : List Tr)
  | node (kd : Str) (ps : List Tr)
mutual
inductive IsTree (P : Params) (lo hi : Nat) (h : Heap) : Value → Tr → Prop
  | str (s : Str) (t : Nat) : IsTree P lo hi h (.str s t) (.str s)
  | lst (a : Addr) (n : Nat) (vs : List Value) (ts : List Tr) (b1 : lo ≤ a) (b2 : a < hi) (o : h.get? a = some (listN vs n)) (r : IsTrees P lo hi h vs ts) : IsTree P lo hi h (.ref a) (.lst ts)
  | node (a d p : Addr) (kd : Str) (ln : Int) (k v : Nat → Nat) (vs : List Value) (ts : List Tr) (a1 : lo ≤ a) (a2 : a < hi) (d1 : lo ≤ d) (d2 : d < hi) (p1 : lo ≤ p) (p2 : p < hi)
      (oa : h.get? a = some (inst 38 d)) (od : h.get? d = some (nodeO P kd ln p k v)) (op : h.get? p = some (listO vs)) (r : IsTrees P lo hi h vs ts) : IsTree P lo hi h (.ref a) (.node kd ts)
inductive IsTrees (P : Params) (lo hi : Nat) (h : Heap) : List Value → List Tr → Prop
  | nil : IsTrees P lo hi h [] []
  | cons {v : Value} {t : Tr} {vs : List Value} {ts : List Tr} (a : IsTree P lo hi h v t) (r : IsTrees P lo hi h vs ts) : IsTrees P lo hi h (v :: vs) (t :: ts)
end
section
variable {P : Params} {lo hi lo' hi' : Nat} {h h' : Heap}
mutual
theorem IsTree.mono (l : lo' ≤ lo) (u : hi ≤ hi') (k : ∀ b o, lo ≤ b → b < hi → h.get? b = some o → h'.get? b = some o) : ∀ {v : Value} {t : Tr}, IsTree P lo hi h v t → IsTree P lo' hi' h' v t
  | _, _, .str s t => .str s t
  | _, _, .lst a n vs ts b1 b2 o r => .lst a n vs ts (Nat.le_trans l b1) (Nat.lt_of_lt_of_le b2 u) (k _ _ b1 b2 o) (IsTrees.mono l u k r)
  | _, _, .node a d p kd ln kk v vs ts a1 a2 d1 d2 p1 p2 oa od op r =>
    .node a d p kd ln kk v vs ts (Nat.le_trans l a1) (Nat.lt_of_lt_of_le a2 u) (Nat.le_trans l d1) (Nat.lt_of_lt_of_le d2 u) (Nat.le_trans l p1) (Nat.lt_of_lt_of_le p2 u) (k _ _ a1 a2 oa) (k _ _ d1 d2 od) (k _ _ p1 p2 op) (IsTrees.mono l u k r)
theorem IsTrees.mono (l : lo' ≤ lo) (u : hi ≤ hi') (k : ∀ b o, lo ≤ b → b < hi → h.get? b = some o → h'.get? b = some o) : ∀ {v : List Value} {t : List Tr}, IsTrees P lo hi h v t → IsTrees P lo' hi' h' v t
  | _, _, .nil => .nil
  | _, _, .cons a r => .cons (IsTree.mono l u k a) (IsTrees.mono l u k r)
end
end
noncomputable def treeF (P : Params) (lo hi : Nat) (v : Value) (t : Tr) : Fact := ⟨lo, hi, fun h => IsTree P lo hi h v t⟩
theorem treeF_stable (P : Params) (lo hi : Nat) (v : Value) (t : Tr) : (treeF P lo hi v t).Stable := fun _ _ k x => x.mono (Nat.le_refl _) (Nat.le_refl _) k
abbrev RunF (w : World) (b : Bool) (f : Nat → Nat) (B T : Nat) (C : Cn) (ids nids : List Nat) (n ks : Nat) (l : List CSpec) (y : Nat → Nat) (ex : List (Addr × Obj)) (fs : List Fact) : Prop :=
  RunEq C.sl.length ids nids (goT (par w b C.D C.U) n (C.co f) ks l ⟨C.sl, B, T, []⟩) (C.res y) (upsP C.sl (C.upo y) C.upi) (C.add y ++ ex) fs
theorem node_fact {w : World} {b : Bool} {C : Cn} (ok : chk C = true) {ix : List Nat} (I : IxOk C ix) (ids nids : List Nat) (n ks : Nat) (hn : ndB nids = true) (hp : C.pu = false) (hau : C.au = false)
    (T : (Nat → Nat) → Nat → Nat → Tele) (v : ∀ f B t, ValidT (par w b C.D C.U) 0 0 (T f B t))
    (run : ∀ f B t, AllT (T f B t) fun l => ∃ y ex fs, RunF w b f B t C ids nids n ks l y ex fs ∧
      ∀ h', B ≤ h'.objs.size → (∀ s ∈ C.add y ++ ex, h'.get? s.1 = some s.2 ∧ B ≤ s.1 ∧ s.1 < h'.objs.size) → (∀ F ∈ fs, F.P h' ∧ F.Stable ∧ B ≤ F.lo ∧ F.hi ≤ h'.objs.size) → ∀ F ∈ C.fs y h'.objs.size, F.P h' ∧ F.Stable ∧ B ≤ F.lo ∧ F.hi ≤ h'.objs.size) :
    Node (par w b 0 0) 0 0 XT (C.spec ix) := by
  obtain ⟨G, hu⟩ := chk_good ok
  refine node_of G I fun f A h g d tk os R hA hD hU hC own nd hR => ?_
  have hcs : cStatics ∉ C.mu := (hC.top _ _ (kt2 _)).2
  refine by_go (P := par w b C.D C.U) (Dv := 0) (Uv := 0) (mu := C.mu) (T f h.objs.size tk) n ks C.sl [] (fun _ h => nomatch h) hA hD hU ⟨hC.1, hC.2⟩ own nd hu hcs (fun h => nomatch h) (v ..) ?_
  refine (run f h.objs.size tk).mono fun l ⟨y, ex, fs, e, hfs⟩ => ends_of (ids := ids) (nids := nids) (r := C.res y) (ups := upsP C.sl (C.upo y) C.upi) (adds := C.add y ++ ex) (fs := fs) (k := C.sl.length) (by rw [goT_eq]; exact e) (List.length_map ..) (ndB_nd hn) fun h' tk' F => ?_
  have hfs' := hfs h' F.grow (fun s hs => ⟨(F.add s hs).1, (F.add s hs).2, Heap.lt_size (F.add s hs).1⟩) (fun G hG => let ⟨a, b, d⟩ := F.fact G hG; ⟨a, b, F.new0 G hG, d⟩)
  refine hR (h'.objs.size, tk', y) h' ⟨fun b o e1 e2 => F.keep b o e1 fun hm => ?_, by show _ = szOf C.pu _ _; rw [hp]; rfl, F.grow, fun p hp o _ => ?_, fun p hp => F.add p (List.mem_append_left _ hp), ?_, fun F' hF' => ?_⟩
  · obtain ⟨j, hj, rfl⟩ := List.mem_map.mp hm
    have hm2 : (natAt ix j, adAt C.sl j) ∈ (updP ix C.sl (C.upo y) C.upi).map (fun p => (p.1, p.2.1)) := by rw [updP_map]; exact List.mem_map.mpr ⟨j, hj, rfl⟩
    obtain ⟨p, hp, ep⟩ := List.mem_map.mp hm2
    exact e2 p hp (Prod.mk.inj ep).2.symm
  · obtain ⟨j, hj, ea, eo⟩ := updP_mem (ix := ix) (sl := C.sl) (o := C.upo y) hp
    rw [ea, eo]
    exact F.own _ (upsP_mem hj)
  · have := F.nd
    rw [List.map_append] at this
    exact (List.nodup_append.mp this).1
  · have z := hfs' F' hF'
    refine ⟨z.1, z.2.1, z.2.2.1, z.2.2.2, fun ha => ?_⟩
    have : C.au = true := ha
    rw [hau] at this; cases this
noncomputable def nmO (P : Params) (s : String) (ln : Int) (y : Nat → Nat) (l : List (Addr × Obj)) : List (Addr × Obj) := (y 29, inst 38 (y 30)) :: (y 30, nodeO P (Z "Name") ln (y 31) (natAt [y 32, y 33, y 34, y 35]) (natAt [y 36, y 37, 0, 0])) :: (y 31, listO [.str (Z s) (y 40)]) :: l
theorem nf {w : World} {b : Bool} {C : Cn} (ids nids : List Nat) (n ks : Nat) (V : (Nat → Nat) → Nat → Nat → VT (par w b C.D C.U) 0 0) (run : ∀ f B t, AllT (V f B t).T fun l => ∃ y ex fs, RunF w b f B t C ids nids n ks l y ex fs ∧
      ∀ h', B ≤ h'.objs.size → (∀ s ∈ C.add y ++ ex, h'.get? s.1 = some s.2 ∧ B ≤ s.1 ∧ s.1 < h'.objs.size) → (∀ F ∈ fs, F.P h' ∧ F.Stable ∧ B ≤ F.lo ∧ F.hi ≤ h'.objs.size) → ∀ F ∈ C.fs y h'.objs.size, F.P h' ∧ F.Stable ∧ B ≤ F.lo ∧ F.hi ≤ h'.objs.size) (ok : chk C = true := by rfl') (hn : ndB nids = true := by rfl') (hp : C.pu = false := by exact rfl) (hau : C.au = false := by exact rfl) : Nd w b C := fun {ix} I => node_fact ok I ids nids n ks hn hp hau (fun f B t => (V f B t).T) (fun f B t => (V f B t).v) run
theorem nT {P : Params} {lo hi : Nat} {h : Heap} {a d p : Addr} {kd : Str} {ln : Int} {k v : Nat → Nat} {vs : List Value} {ts : List Tr} (A : h.get? a = some (inst 38 d) ∧ lo ≤ a ∧ a < hi) (D : h.get? d = some (nodeO P kd ln p k v) ∧ lo ≤ d ∧ d < hi) (Q : h.get? p = some (listO vs) ∧ lo ≤ p ∧ p < hi) (r : IsTrees P lo hi h vs ts) : IsTree P lo hi h (.ref a) (.node kd ts) := .node _ _ _ _ _ _ _ _ _ A.2.1 A.2.2 D.2.1 D.2.2 Q.2.1 Q.2.2 A.1 D.1 Q.1 r
theorem lT {P : Params} {lo hi : Nat} {h : Heap} {a n : Nat} {vs : List Value} {ts : List Tr} (A : h.get? a = some (listN vs n) ∧ lo ≤ a ∧ a < hi) (r : IsTrees P lo hi h vs ts) : IsTree P lo hi h (.ref a) (.lst ts) := .lst _ _ _ _ A.2.1 A.2.2 A.1 r
theorem f1 {P : Params} {B : Nat} {l : List (Addr × Obj)} {fs : List Fact} {v : Value} {T : Tr} (H : ∀ h' : Heap, (∀ s ∈ l, h'.get? s.1 = some s.2 ∧ B ≤ s.1 ∧ s.1 < h'.objs.size) → (∀ F ∈ fs, F.P h' ∧ F.Stable ∧ B ≤ F.lo ∧ F.hi ≤ h'.objs.size) → (∀ (i : Nat) {q : Addr × Obj}, l[i]? = some q → h'.get? q.1 = some q.2 ∧ B ≤ q.1 ∧ q.1 < h'.objs.size) → IsTree P B h'.objs.size h' v T) :
    ∀ h' : Heap, B ≤ h'.objs.size → (∀ s ∈ l, h'.get? s.1 = some s.2 ∧ B ≤ s.1 ∧ s.1 < h'.objs.size) → (∀ F ∈ fs, F.P h' ∧ F.Stable ∧ B ≤ F.lo ∧ F.hi ≤ h'.objs.size) → ∀ F ∈ [treeF P B h'.objs.size v T], F.P h' ∧ F.Stable ∧ B ≤ F.lo ∧ F.hi ≤ h'.objs.size := fun h' hB hs hf F hF => by
  obtain rfl := List.mem_singleton.mp hF
  exact ⟨H h' hs hf fun i q e => hs q (List.mem_of_getElem? (i := i) e), treeF_stable _ _ _ _ _, Nat.le_refl _, Nat.le_refl _⟩
noncomputable def Tk.as (k : Tk) (kd vl : Str) : Tk := { k with kd := kd, vl := vl }
noncomputable def cAsT (R : Rd) (c : Cu) (k : Tk) (can : Bool) (rk : Str) (rl : Nat) (T : Tr) (D U : Nat) : Cn := { co := fun _ => fcall 763 [.ref R.p, .bool can], sl := slAll R c, res := fun y => okV (.ref (y 29)), upi := [1, 3], upo := upRd R c.n k.en k.ln, add := fun y => newTok R k y ++ nodeAt R.P rk rl y 29, fs := fun y z => [treeF R.P (y 41) z (.ref (y 29)) T], D, U }
noncomputable def cInTs (a : Addr) (items : List Value) (x : Str) (v : Bool) : Cn := { co := fun f => bcall "tuple.__contains__" [.ref a, .str x (f 1)], sl := [⟨a, tupO items, false⟩], res := fun _ => okV (.bool v), pu := true, D := 0, U := 0 }
theorem n_inTs (w : World) (b : Bool) {ix : List Nat} (a : Addr) (items : List Value) (x : Str) (v : Bool) (q2 : allS items = true) (h : anyB (isS x) items = v) (I : IxOk (cInTs a items x v) ix) : Node (par w b 0 0) 0 0 XT ((cInTs a items x v).spec ix) :=
  node_pure ⟨.nil, fun _ h => nomatch h⟩ I rfl rfl (fun _ => rfl) (fun _ => rfl) fun f A s R _ own hR => by
    have ho := own _ (.head _)
    have it : IsTup s.heap a items.toArray := ⟨_, ho, rfl, 0, rfl⟩
    refine codeAny_call_builtin PySem.F.slot_tuple_contains.plain PySem.F.entry_tuple_contains (PySem.F.slot_tuple_contains.check _ _ _ _ _ _ _ _ it.typeIs (PySem.F.args_tuple_contains_2 _ _) ?_)
    refine tuple_contains_strs it (strs_are q2) ?_
    rw [strs_any x q2, h]
    exact hR (fun _ => 0) s.toks
structure Ca where
  pv : Nat → Nat
  v : Nat → Nat
  t : Addr
  td : Addr
  tk : Nat → Nat
  tv : Nat → Nat
noncomputable def cuA (n : Int) (k : Tk) (a : Ca) : Cu := ⟨n, k.en, k.ln, a.pv, a.v, a.t, a.td, k, a.tk, a.tv⟩
noncomputable def aY (y : Nat → Nat) : Ca := ⟨fun j => y (21 + j), fun j => y (2 + j), y 0, y 1, fun j => y (5 + j), fun j => y (13 + j)⟩
noncomputable def Ca.pY (a : Ca) (y : Nat → Nat) : Ca := ⟨y, a.v, a.t, a.td, a.tk, a.tv⟩
noncomputable def yH (a : Ca) (l : List Nat) : List Nat := a.t :: a.td :: a.v 0 :: a.v 1 :: a.v 2 :: a.tk 0 :: a.tk 1 :: a.tk 2 :: a.tk 3 :: a.tk 4 :: a.tk 5 :: a.tk 6 :: a.tk 7 :: a.tv 0 :: a.tv 1 :: a.tv 2 :: a.tv 3 :: a.tv 4 :: a.tv 5 :: a.tv 6 :: a.tv 7 :: a.pv 0 :: a.pv 1 :: a.pv 2 :: a.pv 3 :: a.pv 4 :: a.pv 5 :: a.pv 6 :: a.pv 7 :: l
noncomputable def Nxt (w : World) (b : Bool) (R : Rd) (k k' : Tk) : Prop := ∀ c : Cu, c.k = k → c.i = k.en → c.ln = k.ln → Nd w b (cTake R c k')
noncomputable def NxtA (w : World) (b : Bool) (tx : Str) (k k' : Tk) : Prop := ∀ R : Rd, R.P = w.params → R.tx = tx → Nxt w b R k k'
abbrev tN (k : Tk) (s : String) : Tk := k.as sN (Z s)
abbrev tP (k : Tk) (s : String) : Tk := k.as sP (Z s)
abbrev tK (k : Tk) (s : String) : Tk := k.as sK (Z s)
abbrev tE (k : Tk) : Tk := k.as sE s0
noncomputable def signsL : List Str := ["=", "+=", "-=", "*=", "/=", "%=", "<<=", ">>=", ">>>=", "&=", "^=", "|="].map Z
theorem sg_all {p : Str → Bool} (h : signsL.all p = true) {s : Str} (hs : s ∈ signsL) : p s = true := List.all_eq_true.mp h s hs
theorem sg_ne {s : Str} (hs : s ∈ signsL) (t : Str) (h : signsL.all (fun s => !(s.cps.toList == t.cps.toList)) = true) : (s.cps.toList == t.cps.toList) = false := by
  have := sg_all h hs
  simpa using this
theorem sg_in {w : World} {s : Str} (hs : s ∈ signsL) (a : Addr) (v : Bool) (h : signsL.all (fun s => match inS "tuple" (ktOf w.params) a s with | some x => x == v | none => false) = true) : inS "tuple" (ktOf w.params) a s = some v := by
  have := sg_all h hs
  split at this
  · rename_i x e; rw [e]; simpa using this
  · cases this
theorem sg_pr {w : World} {s : Str} (hs : s ∈ signsL) (n : Int) (h : signsL.all (fun s => match getI (esOf (ktOf w.params) 730) s with | some x => x == n | none => false) = true) : getI (esOf (ktOf w.params) 730) s = some n := by
  have := sg_all h hs
  split at this
  · rename_i x e; rw [e]; simpa using this
  · cases this
theorem sg732 {w : World} {s : Str} (hs : s ∈ signsL) : inS "tuple" (ktOf w.params) 732 s = some true := sg_in hs 732 true (by rfl')
theorem sg733 {w : World} {s : Str} (hs : s ∈ signsL) : inS "tuple" (ktOf w.params) 733 s = some false := sg_in hs 733 false (by rfl')
theorem sg735 {w : World} {s : Str} (hs : s ∈ signsL) : inS "tuple" (ktOf w.params) 735 s = some false := sg_in hs 735 false (by rfl')
theorem sgPr {w : World} {s : Str} (hs : s ∈ signsL) : getI (esOf (ktOf w.params) 730) s = some 0 := sg_pr hs 0 (by rfl')
theorem n_prioSg (w : World) (b : Bool) (R : Rd) (c : Cu) (can : Bool) (h1 : (c.k.kd.cps.toList == (Z "punct").cps.toList) = true) (hs : c.k.vl ∈ signsL) : Nd w b (cPrio R c can 0) := n_prioP w b R c can 0 h1 (sgPr hs)
theorem dn {n : Int} (h : n ≤ 39) : decide (n + 1 > 40) = false := by simp; omega
theorem dm (n : Int) : n + 1 - 1 = n := by omega
noncomputable def cEx (R : Rd) (c : Cu) (k : Tk) (can : Bool) (T : Tr) (D U : Nat) : Cn := { co := fun _ => fcall 756 [.ref R.p, .bool can], sl := slAll R c, res := fun y => okV (.ref (y 29)), upi := [1, 3], upo := upRd R c.n k.en k.ln, add := newTok R k, fs := fun y z => [treeF R.P (y 41) z (.ref (y 29)) T], D, U }
noncomputable def fnT (t : Sem Flow) (env : Env) : Sem Fin := do
  match ← t.onRaise (leaving env) with
  | .ret v => ret v
  | _ => ret .none
noncomputable def ownT (e : Value) (env : Env) : Sem Flow := (Sem.raise e : Sem Flow).onRaise fun x => do
  if (← field x 1) == .none then unsupported "frame.own-activation:exception-without-traceback"
  setFlight x env.frame
noncomputable def thenT (t : Sem Flow) (rest : List Stmt) (env : Env) : Sem Flow := do
  match ← t with
  | .next => execs rest env
  | f => pure f
noncomputable def lpT (e : Value) (env : Env) : Sem Fin := (Sem.raise e : Sem Fin).onRaise fun x => do noteFrame x env; theTreesLotGoes x
noncomputable def restOf : List Stmt → List Stmt
  | [] => []
  | .While .. :: l => l
  | .Try .. :: l => l
  | _ :: l => restOf l
noncomputable def hsOf : List Stmt → List ExceptHandler
  | [] => []
  | .Try _ hs _ _ _ :: _ => hs
  | _ :: l => hsOf l
noncomputable def bodyOf : Code → List Stmt
  | .func b _ => b
  | _ => []
noncomputable def flyT (e : Value) (c : Code) (kind : Nat) : Sem Fin := match c.env? with
  | none => .raise e
  | some env => match kind with
    | 0 => fnT (.raise e) env
    | 1 => fnT (thenT (ownT e env) (restOf (bodyOf c)) env) env
    | 2 => lpT e env
    | _ => fnT (thenT (tryStmt false (.raise e) (hsOf (bodyOf c)) (execs [] env) [] env) (restOf (bodyOf c)) env) env
set_option maxHeartbeats 0 in
lay_quick Mine.flyT
noncomputable def erO (eo : Obj) (T : Addr) : Obj := Obj.mapFields (·.setIfInBounds 1 (.ref T)) eo
noncomputable def tbO (a0 a1 a2 a3 a4 : Value) (pl : List Value) : Obj := { cls := .type "traceback", dict := none, data := .fields ([a0, a1, a2, a3, a4] ++ pl).toArray }
structure Gr (h h' : Heap) : Prop where
  up : h.UpToSlots h'
  size : h.objs.size ≤ h'.objs.size
theorem Gr.refl (h : Heap) : Gr h h := ⟨.refl h, Nat.le_refl _⟩
theorem Gr.trans {h1 h2 h3 : Heap} (a : Gr h1 h2) (b : Gr h2 h3) : Gr h1 h3 := ⟨a.up.trans b.up, Nat.le_trans a.size b.size⟩
structure HX (base : Heap) (l : List Env) (e : Addr) (eo : Obj) (fl : Value) (h : Heap) : Prop where
  kb : base.StaysIn h
  ne : base.get? e = none
  fr : h.FunFrames base l
  ex : ∃ T a0 a1 a2 a4 pl, h.get? e = some (erO eo T) ∧ base.get? T = none ∧ T ≠ e ∧ h.get? T = some (tbO a0 a1 a2 fl a4 pl)
structure EO (eo : Obj) : Prop where
  ex : ∃ vs, eo.data = .fields vs ∧ 1 < vs.size
theorem erO_data {eo : Obj} (H : EO eo) (T : Addr) : ∃ vs, (erO eo T).data = .fields vs ∧ 1 < vs.size ∧ vs[1]? = some (.ref T) := by
  obtain ⟨vs, hd, hs⟩ := H.ex
  exact ⟨vs.setIfInBounds 1 (.ref T), Obj.data_mapFields hd _, by simpa using hs, by simp [hs]⟩
theorem erO_erO {eo : Obj} (H : EO eo) (T U : Addr) : Obj.mapFields (·.setIfInBounds 1 (.ref U)) (erO eo T) = erO eo U := by
  obtain ⟨vs, hd, hs⟩ := H.ex
  obtain ⟨c, d, dt, sl⟩ := eo
  have hd' : dt = .fields vs := hd
  subst hd'
  show (⟨c, d, .fields _, sl⟩ : Obj) = ⟨c, d, .fields _, sl⟩
  congr 2
  apply Array.ext'
  simp
theorem fr_tail {h base : Heap} {env : Env} {l : List Env} (x : h.FunFrames base (env :: l)) : h.FunFrames base l := by
  obtain ⟨_, _, r⟩ := x
  exact r
section
variable {M : Model} {A : Around} {E : Value → Shared → Prop} {s : Shared} {base : Heap} {env : Env} {outer l : List Env} {L e : Addr} {eo : Obj} {fl : Value} {Q : Unit → Shared → Prop}
theorem nf_ne {h : Heap} {b e : Addr} {o oe : Obj} {vs} (he : h.get? e = some oe) (hd : oe.data = .fields vs) (ho : h.get? b = some o) (hn : ∀ vs, o.data ≠ .fields vs) : b ≠ e := fun q => by
  subst q
  rw [ho] at he
  cases he
  exact hn _ hd
theorem note_entry {oe : Obj} {vs : Array Value} {head : Value} {b : Bool} (hfr : A.frames = some (env :: outer)) (hl : s.heap.FunFrames base (env :: outer)) (hf : env.frame = some L) (he : s.heap.get? e = some oe) (hd : oe.data = .fields vs) (hsz : 1 < vs.size)
    (hm : ∀ T, Obj.mapFields (·.setIfInBounds 1 (.ref T)) oe = erO eo T) (kb : base.StaysIn s.heap) (ne : base.get? e = none)
    (h : ∀ h', HX base (env :: outer) e eo (rawInt L) h' → Gr s.heap h' → Q () { s with heap := h' }) :
    wpAny M A (do let a ← frameOf env; let pl ← entryPlaceOf L b; let t ← EntryCells.newEntry head a .none (rawInt L) .none pl; setField (.ref e) 1 t) Q E s := by
  have hne : e ∉ (env :: outer).filterMap (·.frame) := fun hm => by
    obtain ⟨_, o, ho, hnf⟩ := hl.mem hm
    exact nf_ne he hd ho hnf rfl
  refine wpAny_bind (wpAny_frameOf_fun hfr hl hf fun h1 hs => ?_)
  refine wpAny_bind (wpAny_entryPlaceOf fun pl hpl => ?_)
  unfold EntryCells.newEntry newFields
  refine wpAny_bind (wpAny_newObj_type ?_ (hpl.sizeOk5 _ _ _ _ _))
  have he1 : h1.get? e = some oe := (hs.2.1 e hne).trans he
  have he2 := Heap.get?_push_of_some (h := h1) { cls := .type "traceback", dict := none, data := .fields ([head, .ref L, .none, rawInt L, .none] ++ (if pl.isEmpty then List.replicate 6 Value.none else pl)).toArray } he1
  refine wpAny_setField he2 hd hsz (h _ ?_ ?_)
  · have kp : ∀ b o, b ≠ e → h1.get? b = some o → ((h1.push { cls := .type "traceback", dict := none, data := .fields ([head, .ref L, .none, rawInt L, .none] ++ (if pl.isEmpty then List.replicate 6 Value.none else pl)).toArray }).update e (Obj.mapFields (·.setIfInBounds 1 (.ref h1.objs.size)))).get? b = some o := fun b o hb ho => by
      rw [Heap.get?_update_other _ _ (Ne.symm hb)]
      exact Heap.get?_push_of_some _ ho
    have hT : h1.objs.size ≠ e := Nat.ne_of_gt (Heap.lt_size he1)
    have kb1 : base.StaysIn h1 := fun b o hb => (hs.2.1 b fun hm => by rw [(hl.mem hm).1] at hb; cases hb).trans (kb b o hb)
    refine ⟨fun b o hb => kp b o (fun q => by rw [q, ne] at hb; cases hb) (kb1 b o hb), ne, hl.of_keeps fun b o ho hn => ?_, ⟨h1.objs.size, head, .ref L, .none, .none, (if pl.isEmpty then List.replicate 6 Value.none else pl), ?_, kb1.fresh, hT, ?_⟩⟩
    · obtain ⟨sl, hs2⟩ := hs.2.2 b o ho
      exact ⟨_, kp b _ (nf_ne he hd ho hn) hs2, rfl⟩
    · rw [← hm]
      exact Heap.get?_update_self _ he2 (Obj.isFreed_of_fields (Obj.data_mapFields hd _))
    · rw [Heap.get?_update_other _ _ (Ne.symm hT)]
      exact Heap.get?_push_size _ rfl
  · refine ⟨fun b o ho hn => ?_, ?_⟩
    · obtain ⟨sl, hs2⟩ := hs.2.2 b o ho
      refine ⟨sl, ?_⟩
      rw [Heap.get?_update_other _ _ (Ne.symm (nf_ne he hd ho hn))]
      exact Heap.get?_push_of_some _ hs2
    · rw [Heap.size_after_update, Heap.size_push, hs.1]
      exact Nat.le_succ _
theorem note_first {vs : Array Value} (H : EO eo) (hfr : A.frames = some (env :: outer)) (hl : s.heap.FunFrames base (env :: outer)) (hf : env.frame = some L) (he : s.heap.get? e = some eo) (hd : eo.data = .fields vs) (h1 : vs[1]? = some .none) (kb : base.StaysIn s.heap) (ne : base.get? e = none)
    (h : ∀ h', HX base (env :: outer) e eo (rawInt L) h' → Gr s.heap h' → Q () { s with heap := h' }) : wpAny M A (noteFrame (.ref e) env) Q E s := by
  unfold noteFrame
  simp only [hf]
  refine wpAny_bind (wpAny_field he hd h1 ?_)
  rw [if_neg (by decide)]
  exact note_entry hfr hl hf he hd (Array.getElem?_eq_some_iff.mp h1).1 (fun _ => rfl) kb ne h
theorem tb_set (a0 a1 a2 a3 a4 x : Value) (pl : List Value) : Obj.mapFields (·.setIfInBounds 3 x) (tbO a0 a1 a2 a3 a4 pl) = tbO a0 a1 a2 x a4 pl := by
  show (⟨_, _, .fields _, _⟩ : Obj) = ⟨_, _, .fields _, _⟩
  congr 2
theorem tb_field (a0 a1 a2 a3 a4 : Value) (pl : List Value) : ∃ ts, (tbO a0 a1 a2 a3 a4 pl).data = .fields ts ∧ ts[3]? = some a3 := ⟨_, rfl, by simp⟩
theorem HX.flight (X : HX base l e eo fl s.heap) (H : EO eo) {x : Value} {T a0 a1 a2 a4 pl} (he : s.heap.get? e = some (erO eo T)) (hT : base.get? T = none) (hTe : T ≠ e) (ho : s.heap.get? T = some (tbO a0 a1 a2 fl a4 pl)) :
    HX base l e eo x (s.heap.update T (Obj.mapFields (·.setIfInBounds 3 x))) ∧ Gr s.heap (s.heap.update T (Obj.mapFields (·.setIfInBounds 3 x))) ∧
      (s.heap.update T (Obj.mapFields (·.setIfInBounds 3 x))).get? e = some (erO eo T) := by
  have oth : ∀ b, b ≠ T → (s.heap.update T (Obj.mapFields (·.setIfInBounds 3 x))).get? b = s.heap.get? b := fun b hb => Heap.get?_update_other _ _ (Ne.symm hb)
  obtain ⟨ts, td, _⟩ := tb_field a0 a1 a2 fl a4 pl
  refine ⟨⟨fun b o hb => (oth b fun q => by rw [q, hT] at hb; cases hb).trans (X.kb b o hb), X.ne, X.fr.of_keeps fun b o hb hn => ⟨o, (oth b (nf_ne ho td hb hn)).trans hb, rfl⟩, ⟨T, a0, a1, a2, a4, pl, (oth e (Ne.symm hTe)).trans he, hT, hTe, ?_⟩⟩, ⟨fun b o hb hn => ⟨o.slots, (oth b (nf_ne ho td hb hn)).trans hb⟩, by rw [Heap.size_after_update]; exact Nat.le_refl _⟩, (oth e (Ne.symm hTe)).trans he⟩
  rw [← tb_set a0 a1 a2 fl a4 x pl]
  exact Heap.get?_update_self _ ho (Obj.isFreed_of_fields (Obj.data_mapFields td _))
theorem set_flight (X : HX base l e eo fl s.heap) (H : EO eo) (f : Option Addr) (h : ∀ h', HX base l e eo (f.elim .none fun f => rawInt f) h' → Gr s.heap h' → Q () { s with heap := h' }) : wpAny M A (setFlight (.ref e) f) Q E s := by
  obtain ⟨T, a0, a1, a2, a4, pl, he, hT, hTe, ho⟩ := X.ex
  obtain ⟨vs, hd, hs, h1⟩ := erO_data H T
  obtain ⟨ts, td, t3⟩ := tb_field a0 a1 a2 fl a4 pl
  unfold setFlight
  refine wpAny_bind (wpAny_field he hd h1 ?_)
  rw [if_pos (show (Value.ref T != Value.none) = true from by simp)]
  obtain ⟨x1, x2, _⟩ := X.flight H (x := f.elim .none fun f => rawInt f) he hT hTe ho
  exact wpAny_setField ho td (Array.getElem?_eq_some_iff.mp t3).1 (h _ x1 x2)
theorem note_again (X : HX base (env :: outer) e eo (rawInt L) s.heap) (H : EO eo) (hf : env.frame = some L) (h : Q () s) : wpAny M A (noteFrame (.ref e) env) Q E s := by
  obtain ⟨T, a0, a1, a2, a4, pl, he, hT, hTe, ho⟩ := X.ex
  obtain ⟨vs, hd, hs, h1⟩ := erO_data H T
  obtain ⟨ts, td, t3⟩ := tb_field a0 a1 a2 (rawInt L) a4 pl
  unfold noteFrame
  simp only [hf]
  refine wpAny_bind (wpAny_field he hd h1 ?_)
  rw [if_pos (show (Value.ref T != Value.none) = true from by simp)]
  refine wpAny_bind (wpAny_field ho td t3 ?_)
  rw [if_pos (show (rawInt L == rawInt L) = true from by simp)]
  exact wpAny_pure h
theorem note_on (X : HX base (env :: outer) e eo .none s.heap) (H : EO eo) (hfr : A.frames = some (env :: outer)) (hf : env.frame = some L)
    (h : ∀ h', HX base (env :: outer) e eo (rawInt L) h' → Gr s.heap h' → Q () { s with heap := h' }) : wpAny M A (noteFrame (.ref e) env) Q E s := by
  obtain ⟨T, a0, a1, a2, a4, pl, he, hT, hTe, ho⟩ := X.ex
  obtain ⟨vs, hd, hs, h1⟩ := erO_data H T
  obtain ⟨ts, td, t3⟩ := tb_field a0 a1 a2 .none a4 pl
  unfold noteFrame
  simp only [hf]
  refine wpAny_bind (wpAny_field he hd h1 ?_)
  rw [if_pos (show (Value.ref T != Value.none) = true from by simp)]
  refine wpAny_bind (wpAny_field ho td t3 ?_)
  rw [if_neg (show ¬ ((Value.none == rawInt L) = true) from by simp [rawInt])]
  obtain ⟨x1, x2, x3⟩ := X.flight H (x := .none) he hT hTe ho
  refine wpAny_bind (wpAny_setField ho td (Array.getElem?_eq_some_iff.mp t3).1 ?_)
  exact note_entry (eo := eo) hfr x1.fr hf x3 hd hs (fun U => erO_erO H T U) x1.kb x1.ne fun h' y g => h h' y (x2.trans g)
theorem leave_on (X : HX base (env :: outer) e eo .none s.heap) (H : EO eo) (hfr : A.frames = some (env :: outer)) (hf : env.frame = some L)
    (h : ∀ h', HX base outer e eo .none h' → Gr s.heap h' → Q () { s with heap := h' }) : wpAny M A (leaving env (.ref e)) Q E s := by
  unfold leaving
  refine wpAny_bind (note_on X H hfr hf fun h1 x1 g1 => ?_)
  exact set_flight x1 H none fun h2 x2 g2 => h h2 ⟨x2.kb, x2.ne, fr_tail x2.fr, x2.ex⟩ (g1.trans g2)
theorem leave_again (X : HX base (env :: outer) e eo (rawInt L) s.heap) (H : EO eo) (hf : env.frame = some L)
    (h : ∀ h', HX base outer e eo .none h' → Gr s.heap h' → Q () { s with heap := h' }) : wpAny M A (leaving env (.ref e)) Q E s := by
  unfold leaving
  refine wpAny_bind (note_again X H hf ?_)
  exact set_flight X H none fun h2 x2 g2 => h h2 ⟨x2.kb, x2.ne, fr_tail x2.fr, x2.ex⟩ g2
theorem leave_first {vs : Array Value} (H : EO eo) (hfr : A.frames = some (env :: outer)) (hl : s.heap.FunFrames base (env :: outer)) (hf : env.frame = some L) (he : s.heap.get? e = some eo) (hd : eo.data = .fields vs) (h1 : vs[1]? = some .none) (kb : base.StaysIn s.heap) (ne : base.get? e = none)
    (h : ∀ h', HX base outer e eo .none h' → Gr s.heap h' → Q () { s with heap := h' }) : wpAny M A (leaving env (.ref e)) Q E s := by
  unfold leaving
  refine wpAny_bind (note_first H hfr hl hf he hd h1 kb ne fun h1 x1 g1 => ?_)
  exact set_flight x1 H none fun h2 x2 g2 => h h2 ⟨x2.kb, x2.ne, fr_tail x2.fr, x2.ex⟩ (g1.trans g2)
end
end
section
open PySem PySem.W PySem.W.X PyProof.Rows PySem.Calls PySem.Spec
open Sem (wp)
theorem fr_head {h base : Heap} {env : Env} {l : List Env} (x : h.FunFrames base (env :: l)) : ∃ L, env.frame = some L := by
  obtain ⟨_, ⟨L, _, hf, _⟩, _⟩ := x
  exact ⟨L, hf⟩
noncomputable def landT (e : Value) (b : List Stmt) (env : Env) : Sem Fin := fnT (thenT (handleBy e env (hsOf b)) (restOf b) env) env
section
variable {V : XV} {base : Heap} {env : Env} {outer l : List Env} {e : Addr} {eo : Obj} {s : Shared} {κ : Kont} {b : List Stmt}
theorem fn_frames (h : (aroundOf V true κ).frames = some outer) : ((aroundOf V true κ).under (.func b env)).frames = some (env :: outer) := by
  show pushEnvs [env] (aroundOf V true κ).frames = _
  rw [h]; rfl
theorem lp_frames {te bo oe} (h : (aroundOf V true κ).frames = some outer) : ((aroundOf V true κ).under (.whileLoop te bo oe env)).frames = some outer := by
  show pushEnvs [] (aroundOf V true κ).frames = _
  rw [h]; rfl
theorem pass0 (H : EO eo) (hfr : (aroundOf V true κ).frames = some outer) (X : HX base (env :: outer) e eo .none s.heap)
    (h : ∀ h', HX base outer e eo .none h' → Gr s.heap h' → endOf V κ (.error (.ref e)) { s with heap := h' }) : Means' V (.func b env) κ (flyT (.ref e) (.func b env) 0) s := by
  obtain ⟨L, hf⟩ := fr_head X.fr
  refine wpOwn_of_wpAny ?_
  show wpAny _ _ (fnT (.raise (.ref e)) env) _ _ s
  unfold fnT
  refine wpAny_bind (wpAny_onRaise (wpAny_throw ?_))
  exact leave_on X H (fn_frames hfr) hf fun h' x g => h h' x g
theorem pass_first {vs : Array Value} (H : EO eo) (hfr : (aroundOf V true κ).frames = some outer) (hl : s.heap.FunFrames base (env :: outer)) (he : s.heap.get? e = some eo) (hd : eo.data = .fields vs) (h1 : vs[1]? = some .none) (kb : base.StaysIn s.heap) (ne : base.get? e = none)
    (h : ∀ h', HX base outer e eo .none h' → Gr s.heap h' → endOf V κ (.error (.ref e)) { s with heap := h' }) : Means' V (.func b env) κ (flyT (.ref e) (.func b env) 0) s := by
  obtain ⟨L, hf⟩ := fr_head hl
  refine wpOwn_of_wpAny ?_
  show wpAny _ _ (fnT (.raise (.ref e)) env) _ _ s
  unfold fnT
  refine wpAny_bind (wpAny_onRaise (wpAny_throw ?_))
  exact leave_first H (fn_frames hfr) hl hf he hd h1 kb ne fun h' x g => h h' x g
theorem pass1 {L : Addr} (H : EO eo) (hfr : (aroundOf V true κ).frames = some outer) (hf : env.frame = some L) (X : HX base (env :: outer) e eo (rawInt L) s.heap)
    (h : ∀ h', HX base outer e eo .none h' → Gr s.heap h' → endOf V κ (.error (.ref e)) { s with heap := h' }) : Means' V (.func b env) κ (flyT (.ref e) (.func b env) 1) s := by
  refine wpOwn_of_wpAny ?_
  show wpAny _ _ (fnT (thenT (ownT (.ref e) env) (restOf b) env) env) _ _ s
  unfold fnT
  refine wpAny_bind (wpAny_onRaise ?_)
  unfold thenT
  refine wpAny_bind ?_
  unfold ownT
  refine wpAny_onRaise (wpAny_throw ?_)
  obtain ⟨T, a0, a1, a2, a4, pl, he, hT, hTe, ho⟩ := X.ex
  obtain ⟨vs, hd, hs, h1⟩ := erO_data H T
  refine wpAny_bind (wpAny_field he hd h1 ?_)
  rw [if_neg (show ¬ ((Value.ref T == Value.none) = true) from by simp)]
  refine set_flight X H env.frame fun h1 x1 g1 => ?_
  rw [hf] at x1
  exact leave_again (L := L) x1 H hf fun h2 x2 g2 => h h2 x2 (g1.trans g2)
theorem pass2 {te bo oe} (H : EO eo) (hfr : (aroundOf V true κ).frames = some (env :: outer)) (X : HX base (env :: outer) e eo .none s.heap)
    (h : ∀ h' L, env.frame = some L → HX base (env :: outer) e eo (rawInt L) h' → Gr s.heap h' → endOf V κ (.error (.ref e)) { s with heap := h' }) : Means' V (.whileLoop te bo oe env) κ (flyT (.ref e) (.whileLoop te bo oe env) 2) s := by
  obtain ⟨L, hf⟩ := fr_head X.fr
  refine wpOwn_of_wpAny ?_
  show wpAny _ _ (lpT (.ref e) env) _ _ s
  unfold lpT
  refine wpAny_onRaise (wpAny_throw ?_)
  refine wpAny_bind (note_on X H (lp_frames hfr) hf fun h1 x1 g1 => ?_)
  exact wpAny_theTreesLotGoes (h h1 L hf x1 g1)
theorem pass3 {h₀ : ExceptHandler} {hs : List ExceptHandler} (H : EO eo) (hh : hsOf b = h₀ :: hs) (hfr : (aroundOf V true κ).frames = some outer) (X : HX base (env :: outer) e eo .none s.heap)
    (h : ∀ h', HX base (env :: outer) e eo .none h' → Gr s.heap h' → Means' V (.func b env) κ (landT (.ref e) b env) { s with heap := h' }) : Means' V (.func b env) κ (flyT (.ref e) (.func b env) 3) s := by
  obtain ⟨L, hf⟩ := fr_head X.fr
  intro Γ p hc hΓ
  have hΓ' : Γ.In ((aroundOf V true κ).under (.func b env)) := hc ▸ hΓ.in
  show wp _ Γ (fnT (thenT (tryStmt false (.raise (.ref e)) (hsOf b) (execs [] env) [] env) (restOf b) env) env) _ _ p s
  rw [hh]
  unfold fnT
  rw [Sem.wp_bind', Sem.wp_onRaise]
  unfold thenT
  rw [Sem.wp_bind']
  unfold tryStmt
  simp only [List.isEmpty_nil, if_true, List.isEmpty_cons, Bool.false_and, Bool.false_eq_true, if_false]
  rw [Sem.wp_bind', Sem.wp_attempt]
  show wp _ Γ (do noteFrame (.ref e) env; setFlight (.ref e) none; handleBy (.ref e) env (h₀ :: hs)) _ _ p s
  rw [Sem.wp_bind']
  refine note_on (E := fun _ _ => False) X H (fn_frames hfr) hf (Q := fun _ s1 => ∀ p', _) (fun h1 x1 g1 => ?_) Γ p hΓ' |> fun z => Sem.wp_mono _ Γ _ (fun a p' s' q => q p') (fun _ _ _ q => q.elim) p s z
  intro p1
  rw [Sem.wp_bind']
  refine set_flight (E := fun _ _ => False) (s := { s with heap := h1 }) x1 H none (Q := fun _ s1 => ∀ p', _) (fun h2 x2 g2 => ?_) Γ p1 hΓ' |> fun z => Sem.wp_mono _ Γ _ (fun a p' s' q => q p') (fun _ _ _ q => q.elim) p1 _ z
  intro p2
  have z := h h2 x2 (g1.trans g2) Γ p2 hc hΓ
  unfold landT fnT at z
  rw [Sem.wp_bind', Sem.wp_onRaise] at z
  unfold thenT at z
  rw [Sem.wp_bind', hh] at z
  exact z
end
end
section
open PySem PySem.W PySem.W.X PyProof.Rows PySem.Calls PySem.Spec
noncomputable def isFld (o : Obj) : Bool := match o.data with
  | .fields _ => true
  | _ => false
theorem isFld_no {o : Obj} (h : isFld o = false) : ∀ vs, o.data ≠ .fields vs := fun vs q => by
  unfold isFld at h
  rw [q] at h
  cases h
noncomputable def frOk (sl : List Slot) (i : Nat) (env : Env) : Option (Side × Side) := match slAt sl i with
  | none => none
  | some s => match s.u with
    | false => none
    | true => match isFld s.o with
      | true => none
      | false => match isMod env.scope.kind with
        | true => none
        | false => match env.frame with
          | none => none
          | some L => some (.ad L, .ad s.a)
structure FrGood (sl : List Slot) (env : Env) : Prop where
  ex : ∃ s ∈ sl, env.frame = some s.a ∧ s.u = true ∧ (∀ vs, s.o.data ≠ .fields vs) ∧ env.scope.kind ≠ .module
theorem frOk_good {sl : List Slot} {i : Nat} {env : Env} {p : Side × Side} (h : frOk sl i env = some p) (e : p.1 = p.2) : FrGood sl env := by
  unfold frOk at h
  cases q1 : slAt sl i with
  | none => rw [q1] at h; cases h
  | some s =>
    cases q2 : s.u with
    | false => simp only [q1, q2] at h; cases h
    | true =>
      cases q3 : isFld s.o with
      | true => simp only [q1, q2, q3] at h; cases h
      | false =>
        cases q4 : isMod env.scope.kind with
        | true => simp only [q1, q2, q3, q4] at h; cases h
        | false =>
          cases q5 : env.frame with
          | none => simp only [q1, q2, q3, q4, q5] at h; cases h
          | some L =>
            simp only [q1, q2, q3, q4, q5] at h
            cases h
            have eL : L = s.a := Side.ad.inj e
            refine ⟨s, slAt_mem q1, by rw [q5, eL], q2, isFld_no q3, fun m => ?_⟩
            rw [m] at q4
            cases q4
abbrev FlyTy := Kont → Option (Obs × List Stmt × Env × Kont)
noncomputable def fly0 (e : Value) (sl : List Slot) (i : Nat) (ih : FlyTy) (κ : Kont) : Option (Obs × List Stmt × Env × Kont) := match κ with
  | .ret c _ kk κ1 => match c with
    | .func b env => match frOk sl i env with
      | none => none
      | some p => match ih κ1 with
        | none => none
        | some r => some (p :: (.tr (kk (.error e)), .tr (flyT e (.func b env) 0)) :: r.1, r.2)
    | _ => none
  | _ => none
noncomputable def fly1 (e : Value) (sl : List Slot) (i : Nat) (ih : FlyTy) (κ : Kont) : Option (Obs × List Stmt × Env × Kont) := match κ with
  | .ret c _ kk κ1 => match c with
    | .whileLoop te bo oe env => match κ1 with
      | .ret c2 _ kk2 κ2 => match c2 with
        | .func b env2 => match frOk sl i env2 with
          | none => none
          | some p => match ih κ2 with
            | none => none
            | some r => some (p :: (.cd (.func [] env), .cd (.func [] env2)) :: (.tr (kk (.error e)), .tr (flyT e (.whileLoop te bo oe env) 2)) :: (.tr (kk2 (.error e)), .tr (flyT e (.func b env2) 1)) :: r.1, r.2)
        | _ => none
      | _ => none
    | _ => none
  | _ => none
noncomputable def isNil (l : List ExceptHandler) : Bool := match l with
  | [] => true
  | _ => false
noncomputable def fly3 (e : Value) (sl : List Slot) (i : Nat) (κ : Kont) : Option (Obs × List Stmt × Env × Kont) := match κ with
  | .ret c _ kk κ1 => match c with
    | .func b env => match frOk sl i env with
      | none => none
      | some p => match isNil (hsOf b) with
        | true => none
        | false => some ([p, (.tr (kk (.error e)), .tr (flyT e (.func b env) 3))], b, env, κ1)
    | _ => none
  | _ => none
noncomputable def flyP (e : Value) (sl : List Slot) (ks : List (Nat × Nat)) : FlyTy :=
  @List.rec (Nat × Nat) (fun _ => FlyTy) (fun _ => none) (fun k _ ih => match k.1 with
    | 0 => fly0 e sl k.2 ih
    | 1 => fly1 e sl k.2 ih
    | _ => fly3 e sl k.2) ks
section
variable {V : XV} {e : Addr} {eo : Obj} {sl : List Slot}
theorem fly_frames {l0 : List Env} (hA : V.A₀.frames = some l0) : ∀ (ks : List (Nat × Nat)) (κ : Kont) {r}, flyP (.ref e) sl ks κ = some r → (∀ p ∈ r.1, p.1 = p.2) → r.2.2.2 = .base → ∃ l, (aroundOf V true κ).frames = some (l ++ l0) ∧ ∀ env ∈ l, FrGood sl env
  | [], κ, r, h, _, _ => nomatch h
  | (k, i) :: ks, κ, r, h, hp, hb => by
    have IH := fun κ r => fly_frames hA ks κ (r := r)
    match k with
    | 0 =>
      change fly0 (.ref e) sl i (flyP (.ref e) sl ks) κ = some r at h
      unfold fly0 at h
      split at h
      · rename_i c hd kk κ1
        split at h
        · rename_i b env
          split at h
          · cases h
          · rename_i p q1
            split at h
            · cases h
            · rename_i r' q2
              cases h
              obtain ⟨l, h1, h2⟩ := IH _ _ q2 (fun p hp' => hp p (.tail _ (.tail _ hp'))) hb
              refine ⟨env :: l, ?_, fun x hx => ?_⟩
              · exact fn_frames (b := b) h1
              · rcases List.mem_cons.mp hx with rfl | hx
                · exact frOk_good q1 (hp _ (.head _))
                · exact h2 x hx
        · cases h
      · cases h
    | 1 =>
      change fly1 (.ref e) sl i (flyP (.ref e) sl ks) κ = some r at h
      unfold fly1 at h
      split at h
      · rename_i c hd kk κ1
        split at h
        · rename_i te bo oe env
          split at h
          · rename_i c2 hd2 kk2 κ2
            split at h
            · rename_i b env2
              split at h
              · cases h
              · rename_i p q1
                split at h
                · cases h
                · rename_i r' q2
                  cases h
                  obtain ⟨l, h1, h2⟩ := IH _ _ q2 (fun p hp' => hp p (.tail _ (.tail _ (.tail _ (.tail _ hp'))))) hb
                  refine ⟨env2 :: l, ?_, fun x hx => ?_⟩
                  · exact lp_frames (env := env) (te := te) (bo := bo) (oe := oe) (κ := .ret (.func b env2) hd2 kk2 κ2) (fn_frames (b := b) h1)
                  · rcases List.mem_cons.mp hx with rfl | hx
                    · exact frOk_good q1 (hp _ (.head _))
                    · exact h2 x hx
            · cases h
          · cases h
        · cases h
      · cases h
    | k + 2 =>
      change fly3 (.ref e) sl i κ = some r at h
      unfold fly3 at h
      split at h
      · rename_i c hd kk κ1
        split at h
        · rename_i b env
          split at h
          · cases h
          · rename_i p q1
            split at h
            · cases h
            · cases h
              have hb : κ1 = .base := hb
              subst hb
              refine ⟨[env], fn_frames (b := b) (κ := .base) hA, fun x hx => ?_⟩
              rcases List.mem_cons.mp hx with rfl | hx
              · exact frOk_good q1 (hp _ (.head _))
              · cases hx
        · cases h
      · cases h
theorem fly_go (H : EO eo) {base : Heap} {os : OsState} : ∀ (ks : List (Nat × Nat)) (κ : Kont) {r} {l : List Env} {s : Shared}, flyP (.ref e) sl ks κ = some r → (∀ p ∈ r.1, p.1 = p.2) → (aroundOf V true κ).frames = some l → HX base l e eo .none s.heap →
    (∀ h' l', HX base (r.2.2.1 :: l') e eo .none h' → Gr s.heap h' → (aroundOf V true r.2.2.2).frames = some l' → Means' V (.func r.2.1 r.2.2.1) r.2.2.2 (landT (.ref e) r.2.1 r.2.2.1) { s with heap := h' }) → endOf V κ (.error (.ref e)) s
  | [], κ, r, l, s, h, _, _, _, _ => nomatch h
  | (k, i) :: ks, κ, r, l, s, h, hp, hfr, X, land => by
    have IH := fun κ r l s => fly_go H (base := base) (os := os) ks κ (r := r) (l := l) (s := s)
    match k with
    | 0 =>
      change fly0 (.ref e) sl i (flyP (.ref e) sl ks) κ = some r at h
      unfold fly0 at h
      split at h
      · rename_i c hd kk κ1
        split at h
        · rename_i b env
          split at h
          · cases h
          · rename_i p q1
            split at h
            · cases h
            · rename_i r' q2
              cases h
              have hfr' : ((aroundOf V true κ1).under (.func b env)).frames = some l := hfr
              obtain ⟨outer, h1, rfl⟩ := Around.frames_under hfr'
              have et : kk (.error (.ref e)) = flyT (.ref e) (.func b env) 0 := Side.tr.inj (hp _ (.tail _ (.head _)))
              show Means' V (.func b env) κ1 (kk (.error (.ref e))) s
              rw [et]
              refine pass0 H h1 X fun h' x g => ?_
              exact IH _ _ _ { s with heap := h' } q2 (fun p hp' => hp p (.tail _ (.tail _ hp'))) h1 x fun h2 l' x2 g2 f2 => land h2 l' x2 (g.trans g2) f2
        · cases h
      · cases h
    | 1 =>
      change fly1 (.ref e) sl i (flyP (.ref e) sl ks) κ = some r at h
      unfold fly1 at h
      split at h
      · rename_i c hd kk κ1
        split at h
        · rename_i te bo oe env
          split at h
          · rename_i c2 hd2 kk2 κ2
            split at h
            · rename_i b env2
              split at h
              · cases h
              · rename_i p q1
                split at h
                · cases h
                · rename_i r' q2
                  cases h
                  have hfr' : ((aroundOf V true (.ret (.func b env2) hd2 kk2 κ2)).under (.whileLoop te bo oe env)).frames = some l := hfr
                  obtain ⟨l1, h0, e0⟩ := Around.frames_under hfr'
                  have e0' : l1 = l := e0.symm
                  subst e0'
                  have hfr2 : ((aroundOf V true κ2).under (.func b env2)).frames = some l1 := h0
                  obtain ⟨outer, h1, rfl⟩ := Around.frames_under hfr2
                  have ee : Code.func [] env = Code.func [] env2 := Side.cd.inj (hp _ (.tail _ (.head _)))
                  obtain rfl : env = env2 := (Code.func.inj ee).2
                  have et : kk (.error (.ref e)) = flyT (.ref e) (.whileLoop te bo oe env) 2 := Side.tr.inj (hp _ (.tail _ (.tail _ (.head _))))
                  have et2 : kk2 (.error (.ref e)) = flyT (.ref e) (.func b env) 1 := Side.tr.inj (hp _ (.tail _ (.tail _ (.tail _ (.head _)))))
                  show Means' V (.whileLoop te bo oe env) (.ret (.func b env) hd2 kk2 κ2) (kk (.error (.ref e))) s
                  rw [et]
                  refine pass2 (κ := .ret (.func b env) hd2 kk2 κ2) (outer := outer) H h0 X fun h' L hf x g => ?_
                  show Means' V (.func b env) κ2 (kk2 (.error (.ref e))) _
                  rw [et2]
                  refine pass1 (L := L) (s := { s with heap := h' }) H h1 hf x fun h2 x2 g2 => ?_
                  exact IH _ _ _ { s with heap := h2 } q2 (fun p hp' => hp p (.tail _ (.tail _ (.tail _ (.tail _ hp'))))) h1 x2 fun h3 l' x3 g3 f3 => land h3 l' x3 ((g.trans g2).trans g3) f3
            · cases h
          · cases h
        · cases h
      · cases h
    | k + 2 =>
      change fly3 (.ref e) sl i κ = some r at h
      unfold fly3 at h
      split at h
      · rename_i c hd kk κ1
        split at h
        · rename_i b env
          split at h
          · cases h
          · rename_i p q1
            split at h
            · cases h
            · rename_i q3
              cases h
              have hfr' : ((aroundOf V true κ1).under (.func b env)).frames = some l := hfr
              obtain ⟨outer, h1, rfl⟩ := Around.frames_under hfr'
              have et : kk (.error (.ref e)) = flyT (.ref e) (.func b env) 3 := Side.tr.inj (hp _ (.tail _ (.head _)))
              show Means' V (.func b env) κ1 (kk (.error (.ref e))) s
              rw [et]
              cases qh : hsOf b with
              | nil => rw [qh] at q3; cases q3
              | cons h₀ hs => exact pass3 H qh h1 X fun h' x g => land h' outer x g h1
        · cases h
      · cases h
end
noncomputable def cutH (h : Heap) : List Addr → Heap
  | [] => h
  | a :: l => (cutH h l).update a fun _ => ⟨.none, none, .freed, #[]⟩
theorem cutH_none {h : Heap} : ∀ {l : List Addr} {b : Addr}, b ∈ l → (cutH h l).get? b = none
  | a :: l, b, hb => by
    by_cases q : b = a
    · subst q
      show ((cutH h l).update b _).get? b = none
      cases x : ((cutH h l).update b fun _ => ⟨.none, none, .freed, #[]⟩).get? b with
      | none => rfl
      | some o =>
        obtain ⟨e1, e2⟩ := Heap.get?_some_iff.mp x
        obtain ⟨ob, lf⟩ := cutH h l
        simp only [Heap.update] at e1
        rw [Array.getElem?_modify] at e1
        simp at e1
        obtain ⟨_, _, rfl⟩ := e1
        cases e2
    · rw [show (cutH h (a :: l)).get? b = (cutH h l).get? b from Heap.get?_update_other _ _ (Ne.symm q)]
      rcases List.mem_cons.mp hb with rfl | hb
      · exact absurd rfl q
      · exact cutH_none hb
theorem cutH_get {h : Heap} : ∀ {l : List Addr} {b : Addr}, b ∉ l → (cutH h l).get? b = h.get? b
  | [], _, _ => rfl
  | a :: l, b, hb => by
    rw [show (cutH h (a :: l)).get? b = (cutH h l).get? b from Heap.get?_update_other _ _ (fun q => hb (q ▸ .head _))]
    exact cutH_get fun hm => hb (.tail _ hm)
abbrev SlT := Array (Option Value)
structure Ld where
  T : Addr
  a0 : Value
  a1 : Value
  a2 : Value
  a4 : Value
  pl : List Value
  sd : SlT
  so : SlT
  sz : Nat
  tk : Nat
noncomputable def catOb (l m : Obs) : Obs := @List.rec (Side × Side) (fun _ => Obs) m (fun p _ ih => p :: ih) l
noncomputable def isErr (o : Obj) : Bool := match o.data with
  | .fields vs => match vs[1]? with
    | some v => match v with
      | .none => true
      | _ => false
    | none => false
  | _ => false
structure LdIx where
  ie : Nat
  id : Nat
  iL : Nat
  i0 : Nat
  ks : List (Nat × Nat)
noncomputable def st2 (ld : Ld) (se sd sL : Slot) : St := ⟨[⟨se.a, erO se.o ld.T, true⟩, ⟨ld.T, tbO ld.a0 ld.a1 ld.a2 .none ld.a4 ld.pl, true⟩, ⟨sd.a, { sd.o with slots := ld.sd }, true⟩, ⟨sL.a, { sL.o with slots := ld.so }, true⟩], ld.sz, ld.tk, []⟩
noncomputable def stepL4 (P : Par) (n2 ks2 : Nat) (ld : Ld) (se sd sL : Slot) (pre : Obs) (r : Obs × List Stmt × Env × Kont) (ob : Obs) : Obs × Res := match r.2.2.2 with
  | .base => match r.2.2.1.frame with
    | some L => go P n2 (.func r.2.1 r.2.2.1) .base (landT (.ref se.a) r.2.1 r.2.2.1) ks2 [] (st2 ld se sd sL) ((.ad L, .ad sL.a) :: catOb pre (catOb r.1 ob))
    | none => (ob, .fail 61)
  | _ => (ob, .fail 62)
noncomputable def ok3 (se sd sL : Slot) (ix : LdIx) : Bool := match se.u with
  | false => false
  | true => match sd.u with
    | false => false
    | true => match sL.u with
      | false => false
      | true => match isFld sd.o with
        | true => false
        | false => match isFld sL.o with
          | true => false
          | false => match isErr se.o with
            | false => false
            | true => ndB [ix.ie, ix.id, ix.iL]
noncomputable def stepL3 (P : Par) (n2 ks2 : Nat) (ld : Ld) (ix : LdIx) (b0 : List Stmt) (env0 : Env) (κ : Kont) (t : Sem Fin) (st : St) (se sd sL : Slot) (ob : Obs) : Obs × Res := match ok3 se sd sL ix with
  | false => (ob, .fail 63)
  | true => match frOk st.sl ix.i0 env0 with
    | none => (ob, .fail 64)
    | some p0 => match flyP (.ref se.a) st.sl ix.ks κ with
      | none => (ob, .fail 65)
      | some r => stepL4 P n2 ks2 ld se sd sL [p0, (.tr t, .tr (flyT (.ref se.a) (.func b0 env0) 0))] r ob
noncomputable def stepL2 (P : Par) (n2 ks2 : Nat) (ld : Ld) (ix : LdIx) (b0 : List Stmt) (env0 : Env) (κ : Kont) (t : Sem Fin) (st : St) (ob : Obs) : Obs × Res := match slAt st.sl ix.ie with
  | none => (ob, .fail 66)
  | some se => match slAt st.sl ix.id with
    | none => (ob, .fail 67)
    | some sd => match slAt st.sl ix.iL with
      | none => (ob, .fail 68)
      | some sL => stepL3 P n2 ks2 ld ix b0 env0 κ t st se sd sL ob
noncomputable def stepL (P : Par) (n2 ks2 : Nat) (ld : Ld) (ix : LdIx) (x : Obs × Res) : Obs × Res := match x.2 with
  | .stop c κ t st => match c with
    | .func b0 env0 => stepL2 P n2 ks2 ld ix b0 env0 κ t st x.1
    | _ => (x.1, .fail 69)
  | .done _ _ => (x.1, .fail 70)
  | .fail n => (x.1, .fail n)
noncomputable def goL (P : Par) (n : Nat) (c : Code) (ks : Nat) (ls : List CSpec) (st : St) (n2 ks2 : Nat) (ld : Ld) (ix : LdIx) : Obs × Res := stepL P n2 ks2 ld ix (goC P n c ks ls st)
noncomputable def resOf (r : Res) : Option Result := match r with
  | .done r _ => some r
  | _ => none
abbrev RunL (x : Obs × Res) (v : Value) : Prop := (x.1.map (·.1), resOf x.2) = (x.1.map (·.2), some (.ok (.ret v)))
theorem catOb_eq (l m : Obs) : catOb l m = l ++ m := by
  induction l with
  | nil => rfl
  | cons a l ih => show a :: catOb l m = _; rw [ih]; rfl
theorem stepL_all {P : Par} {n2 ks2 : Nat} {ix : LdIx} {x : Obs × Res} {ln : Int} (h : ∀ ld, ∃ tok, RunL (stepL P n2 ks2 ld ix x) (.int ln tok)) :
    ∃ b0 env0 κ t st se sd sL p0 r L, x.2 = .stop (.func b0 env0) κ t st ∧ slAt st.sl ix.ie = some se ∧ slAt st.sl ix.id = some sd ∧ slAt st.sl ix.iL = some sL ∧ ok3 se sd sL ix = true ∧ frOk st.sl ix.i0 env0 = some p0 ∧ flyP (.ref se.a) st.sl ix.ks κ = some r ∧ r.2.2.2 = .base ∧ r.2.2.1.frame = some L ∧
      ∀ ld, ∃ tok, RunL (go P n2 (.func r.2.1 r.2.2.1) .base (landT (.ref se.a) r.2.1 r.2.2.1) ks2 [] (st2 ld se sd sL) ((.ad L, .ad sL.a) :: catOb [p0, (.tr t, .tr (flyT (.ref se.a) (.func b0 env0) 0))] (catOb r.1 x.1))) (.int ln tok) := by
  obtain ⟨ob, y⟩ := x
  have no : ∀ {a b : Ld → List Side}, ¬ ∀ ld, ∃ tok, (a ld, (none : Option Result)) = (b ld, some (.ok (.ret (.int ln tok)))) := fun H => by obtain ⟨_, e⟩ := H ⟨0, .none, .none, .none, .none, [], #[], #[], 0, 0⟩; cases (Prod.mk.inj e).2
  cases y with
  | done r st => exact absurd h no
  | fail n => exact absurd h no
  | stop c κ t st =>
    cases c with
    | func b0 env0 =>
      change ∀ ld, ∃ tok, RunL (stepL2 P n2 ks2 ld ix b0 env0 κ t st ob) (.int ln tok) at h
      unfold stepL2 at h
      cases q1 : slAt st.sl ix.ie with
      | none => simp only [q1] at h; exact absurd h no
      | some se =>
        cases q2 : slAt st.sl ix.id with
        | none => simp only [q1, q2] at h; exact absurd h no
        | some sd =>
          cases q3 : slAt st.sl ix.iL with
          | none => simp only [q1, q2, q3] at h; exact absurd h no
          | some sL =>
            simp only [q1, q2, q3] at h
            unfold stepL3 at h
            cases q4 : ok3 se sd sL ix with
            | false => simp only [q4] at h; exact absurd h no
            | true =>
              cases q5 : frOk st.sl ix.i0 env0 with
              | none => simp only [q4, q5] at h; exact absurd h no
              | some p0 =>
                cases q6 : flyP (.ref se.a) st.sl ix.ks κ with
                | none => simp only [q4, q5, q6] at h; exact absurd h no
                | some r =>
                  simp only [q4, q5, q6] at h
                  unfold stepL4 at h
                  cases q7 : r.2.2.2 with
                  | base =>
                    cases q8 : r.2.2.1.frame with
                    | none => simp only [q7, q8] at h; exact absurd h no
                    | some L =>
                      simp only [q7, q8] at h
                      exact ⟨b0, env0, κ, t, st, se, sd, sL, p0, r, L, rfl, q1, q2, q3, q4, q5, q6, q7, q8, h⟩
                  | ret => simp only [q7] at h; exact absurd h no
                  | gen => simp only [q7] at h; exact absurd h no
                  | genS => simp only [q7] at h; exact absurd h no
    | _ => exact absurd h no
theorem ok3_spec {se sd sL : Slot} {ix : LdIx} (h : ok3 se sd sL ix = true) : se.u = true ∧ sd.u = true ∧ sL.u = true ∧ (∀ vs, sd.o.data ≠ .fields vs) ∧ (∀ vs, sL.o.data ≠ .fields vs) ∧ (∃ vs, se.o.data = .fields vs ∧ vs[1]? = some .none) ∧ [ix.ie, ix.id, ix.iL].Nodup := by
  unfold ok3 at h
  cases q1 : se.u with
  | false => simp only [q1] at h; cases h
  | true =>
    cases q2 : sd.u with
    | false => simp only [q1, q2] at h; cases h
    | true =>
      cases q3 : sL.u with
      | false => simp only [q1, q2, q3] at h; cases h
      | true =>
        cases q4 : isFld sd.o with
        | true => simp only [q1, q2, q3, q4] at h; cases h
        | false =>
          cases q5 : isFld sL.o with
          | true => simp only [q1, q2, q3, q4, q5] at h; cases h
          | false =>
            cases q6 : isErr se.o with
            | false => simp only [q1, q2, q3, q4, q5, q6] at h; cases h
            | true =>
              simp only [q1, q2, q3, q4, q5, q6] at h
              refine ⟨rfl, rfl, rfl, isFld_no q4, isFld_no q5, ?_, ndB_nd h⟩
              unfold isErr at q6
              split at q6
              · rename_i vs e1
                split at q6
                · rename_i v e2
                  split at q6
                  · exact ⟨vs, e1, e2⟩
                  · cases q6
                · cases q6
              · cases q6
structure LineEnd (l0 : List Addr) (h h3 : Heap) : Prop where
  keep : ∀ b o, h.get? b = some o → b ∉ l0 → h3.get? b = some o
  up : ∀ b o, h.get? b = some o → b ∈ l0 → ∃ so, h3.get? b = some { o with slots := so }
  size : h.objs.size ≤ h3.objs.size
theorem envAds_mem : ∀ {es : List Env} {l : List Addr}, envAds es = some l → (∀ env ∈ es, env.scope.kind ≠ .module ∧ ∃ L ∈ l, env.frame = some L) ∧ ∀ b, b ∈ es.filterMap (·.frame) → b ∈ l
  | [], l, h => ⟨fun _ h => (nomatch h), fun _ h => (nomatch h)⟩
  | e :: es, l, h => by
    have h' : (match e.frame with | none => none | some L => match isMod e.scope.kind with | true => none | false => match envAds es with | none => none | some l => some (L :: l)) = some l := h
    cases q : e.frame with
    | none => rw [q] at h'; cases h'
    | some L =>
      rw [q] at h'
      cases q2 : isMod e.scope.kind with
      | true => simp only [q2] at h'; cases h'
      | false =>
        simp only [q2] at h'
        cases q3 : envAds es with
        | none => rw [q3] at h'; cases h'
        | some l' =>
          rw [q3] at h'
          have : L :: l' = l := Option.some.inj h'
          subst this
          obtain ⟨i1, i2⟩ := envAds_mem q3
          refine ⟨fun env he => ?_, fun b hb => ?_⟩
          · rcases List.mem_cons.mp he with rfl | he
            · exact ⟨fun m => (by rw [m] at q2; cases q2), L, .head _, q⟩
            · obtain ⟨a, L', b, c⟩ := i1 env he
              exact ⟨a, L', .tail _ b, c⟩
          · rw [List.filterMap_cons, q] at hb
            rcases List.mem_cons.mp hb with rfl | hb
            · exact .head _
            · exact .tail _ (i2 b hb)
theorem erO_err {eo : Obj} {vs} (hd : eo.data = .fields vs) (h1 : vs[1]? = some .none) : EO eo := ⟨vs, hd, (Array.getElem?_eq_some_iff.mp h1).1⟩
theorem erO_freed {eo : Obj} (H : EO eo) (T : Addr) : (erO eo T).isFreed = false := by
  obtain ⟨vs, hd, _⟩ := erO_data H T
  exact Obj.isFreed_of_fields hd
theorem by_line {P : Par} {Dv Uv : Nat} {A : Around} {h : Heap} {g : Array GenState} {d : Drawn} {tk : Nat} {os : OsState} {R : Result → Shared → Prop} {code : Code} (T : Tele) (n ks : Nat) (n2 ks2 : Nat) (ix : LdIx) {l0 : List Addr} {es : List Env}
    (hA : A.handled = none) (hD : A.depth + Dv + P.D ≤ recursionLimit) (hU : A.units + Uv + P.U ≤ cLine) (hF : P.fr = false) (C : CtrIn P.kt l0 h) (kc : ∃ o, P.kt.get cStatics = some o)
    (hes : A.frames = some es) (hl0 : envAds es = some l0) (hob : ∀ L ∈ l0, ∃ o, h.get? L = some o ∧ ∀ vs, o.data ≠ .fields vs)
    (v : ValidT P Dv Uv T) (ln : Int) (H : AllT T fun l => ∀ ld, ∃ tok, RunL (stepL P n2 ks2 ld ix (goC P n code ks l ⟨[], h.objs.size, tk, []⟩)) (.int ln tok))
    (hR : ∀ tok h3 tk3, LineEnd l0 h h3 → R (.ok (.ret (.int ln tok))) ⟨h3, g, d, tk3, os⟩) : codeAny (model P.prog P.w) A code R ⟨h, g, d, tk, os⟩ := by
  have D : RepS h [] [] [] ⟨[], h.objs.size, tk, []⟩ h tk := ⟨rfl, rfl, fun _ h => (nomatch h), .nil, fun _ h => (nomatch h), fun _ _ e _ => e, Nat.le_refl _, fun _ h => (nomatch h), ⟨[], rfl, fun _ h => (nomatch h)⟩, ⟨[], rfl, fun _ h => (nomatch h)⟩⟩
  have topA : ∀ {a o}, P.kt.get a = some o → h.get? a = some o ∧ a ∉ l0 := fun e => C.top _ _ e
  suffices K : AllT T (fun l => Ends (Vof P h A R d os) h [] [] [] g d os R (goC P n code ks l ⟨[], h.objs.size, tk, []⟩)) by
    have z := sound (A₀ := A) (R₀ := R) (d := d) (os := os) (g := g) (h₀ := h) (M₀ := []) (I₀ := []) (O := []) (fun a o e => ⟨(topA e).1, fun h => nomatch h⟩) C.nol (fun h => nomatch h) hA hD hU (fun q => by rw [hF] at q; cases q) n code .base (denote treeTable code) ks T ⟨[], h.objs.size, tk, []⟩ [] h tk v K D
    rw [← table_eq_tree] at z
    exact y_code _ _ _ _ _ _ z
  refine H.mono fun l hl => ?_
  obtain ⟨b0, env0, κ, t, st, se, sd, sL, p0, r, L, e1, q1, q2, q3, q4, q5, q6, q7, q8, e2a⟩ := stepL_all hl
  obtain ⟨_, e2⟩ := e2a ⟨0, .none, .none, .none, .none, [], #[], #[], 0, 0⟩
  have sub : ∀ {n c κ t ks ls st ob v}, RunL (go P n c κ t ks ls st ob) v → ∀ p ∈ ob, p.1 = p.2 := fun {n c κ t ks ls st ob v} q => by
    obtain ⟨r, hr⟩ := go_grows P n c κ t ks ls st ob
    have q1 := (Prod.mk.inj q).1
    rw [hr] at q1
    exact obs_eq q1
  have all := sub e2
  have all1 : ∀ p ∈ (goC P n code ks l ⟨[], h.objs.size, tk, []⟩).1, p.1 = p.2 := fun p hp => all p (.tail _ (by rw [catOb_eq, catOb_eq]; exact List.mem_append_right _ (List.mem_append_right _ hp)))
  refine ⟨?_, ?_⟩
  · exact List.map_congr_left fun p hp => all1 p hp
  show match (goC P n code ks l ⟨[], h.objs.size, tk, []⟩).2 with
    | .done r st => _
    | .stop c κ t st => _
    | .fail _ => _
  rw [e1]
  intro h' tk' D'
  have pr : ∀ p ∈ r.1, p.1 = p.2 := fun p hp => all p (.tail _ (by rw [catOb_eq, catOb_eq]; exact List.mem_append_right _ (List.mem_append_left _ hp)))
  have et : t = flyT (.ref se.a) (.func b0 env0) 0 := Side.tr.inj (all _ (.tail _ (.tail _ (.head _))))
  have ep0 : p0.1 = p0.2 := all _ (.tail _ (.head _))
  have eL : L = sL.a := Side.ad.inj (all _ (.head _))
  obtain ⟨ue, ud, uL, nd, nL, ⟨vs, hvs, hv1⟩, ndi⟩ := ok3_spec q4
  have EOe : EO se.o := erO_err hvs hv1
  subst et
  let V := Vof P h A R d os
  have me := slAt_mem q1
  have md := slAt_mem q2
  have mL := slAt_mem q3
  have new : ∀ {s : Slot}, s ∈ st.sl → s.u = true → h.objs.size ≤ s.a := fun hs hu => (D'.upd _ hs hu).elim (fun h => nomatch h) id
  obtain ⟨lf, hlf, hgood⟩ := fly_frames (V := V) (e := se.a) (sl := st.sl) (l0 := es) hes ix.ks κ q6 pr q7
  have g0 := frOk_good q5 ep0
  have hgood0 : ∀ env ∈ env0 :: lf, FrGood st.sl env := fun env he => by
    rcases List.mem_cons.mp he with rfl | he
    · exact g0
    · exact hgood env he
  obtain ⟨hes1, hes2⟩ := envAds_mem hl0
  let FL := (env0 :: lf ++ es).filterMap (·.frame)
  let base := cutH h' (se.a :: FL)
  have frOf : ∀ {b}, b ∈ FL → (∃ s ∈ st.sl, b = s.a ∧ s.u = true ∧ ∀ vs, s.o.data ≠ .fields vs) ∨ b ∈ l0 := fun {b} hb => by
    obtain ⟨env, he, hf⟩ := List.mem_filterMap.mp hb
    rcases List.mem_append.mp he with he | he
    · obtain ⟨s, hs, e3, e4, e5, _⟩ := (hgood0 env he).ex
      rw [e3] at hf
      cases hf
      exact .inl ⟨s, hs, rfl, e4, e5⟩
    · exact .inr (hes2 b (List.mem_filterMap.mpr ⟨env, he, hf⟩))
  have outb : ∀ {b}, b < h.objs.size → b ∉ l0 → b ∉ se.a :: FL := fun {b} hb hn hm => by
    rcases List.mem_cons.mp hm with rfl | hm
    · exact absurd (new me ue) (Nat.not_le.mpr hb)
    · rcases frOf hm with ⟨s, hs, rfl, hu, _⟩ | hm
      · exact absurd (new hs hu) (Nat.not_le.mpr hb)
      · exact hn hm
  have oldb : ∀ {b o}, h.get? b = some o → b ∉ l0 → base.get? b = some o := fun {b o} ho hn => by
    show (cutH h' (se.a :: FL)).get? b = some o
    rw [cutH_get (outb (Heap.lt_size ho) hn)]
    exact D'.keep b o ho (fun h => nomatch h)
  have kb : base.StaysIn h' := fun b o hb => by
    have hn : b ∉ se.a :: FL := fun hm => by
      have := cutH_none (h := h') hm
      rw [show base.get? b = _ from this] at hb
      cases hb
    rw [show base.get? b = _ from cutH_get hn] at hb
    exact hb
  have ne : base.get? se.a = none := cutH_none (.head _)
  have fun1 : h'.FunFrames base (env0 :: lf ++ es) := by
    have gen : ∀ l : List Env, (∀ env ∈ l, env ∈ env0 :: lf ++ es) → h'.FunFrames base l := fun l => by
      induction l with
      | nil => exact fun _ => trivial
      | cons env l ih =>
        intro hm
        have hin := hm env (.head _)
        refine ⟨?_, ?_, ih fun x hx => hm x (.tail _ hx)⟩
        · rcases List.mem_append.mp hin with he | he
          · obtain ⟨s, hs, e3, e4, e5, e6⟩ := (hgood0 env he).ex
            exact e6
          · exact (hes1 env he).1
        · have key : ∃ L o, env.frame = some L ∧ h'.get? L = some o ∧ ∀ vs, o.data ≠ .fields vs := by
            rcases List.mem_append.mp hin with he | he
            · obtain ⟨s, hs, e3, e4, e5, e6⟩ := (hgood0 env he).ex
              exact ⟨s.a, s.o, e3, D'.own s hs, e5⟩
            · obtain ⟨_, L, hL, hf⟩ := hes1 env he
              obtain ⟨o, ho, hn⟩ := hob L hL
              exact ⟨L, o, hf, D'.keep L o ho (fun h => nomatch h), hn⟩
          obtain ⟨L, o, hf, ho, hn⟩ := key
          exact ⟨L, o, hf, cutH_none (.tail _ (List.mem_filterMap.mpr ⟨env, hin, hf⟩)), ho, hn⟩
    exact gen _ fun _ h => h
  show Means' V (.func b0 env0) κ (flyT (.ref se.a) (.func b0 env0) 0) ⟨h', g, d, tk', os⟩
  refine pass_first (s := ⟨h', g, d, tk', os⟩) (base := base) (outer := lf ++ es) EOe hlf fun1 (D'.own se me) hvs hv1 kb ne fun h1 X1 G1 => ?_
  refine fly_go (V := V) (s := ⟨h1, g, d, tk', os⟩) (base := base) (os := os) EOe ix.ks κ q6 pr hlf X1 fun h2 l' X2 G2 f2 => ?_
  have G : Gr h' h2 := G1.trans G2
  obtain ⟨TT, a0, a1, a2, a4, pl, oe, bT, Te, oT⟩ := X2.ex
  obtain ⟨sod, hd2⟩ := G.up _ _ (D'.own sd md) nd
  obtain ⟨soL, hL2⟩ := G.up _ _ (D'.own sL mL) nL
  obtain ⟨tok, e2'⟩ := e2a ⟨TT, a0, a1, a2, a4, pl, sod, soL, h2.objs.size, tk'⟩
  have top2 : ∀ {b o}, base.get? b = some o → b < h.objs.size → b ∉ [se.a, TT, sd.a, sL.a] := fun {b o} hb hlt hm => by
    rcases List.mem_cons.mp hm with rfl | hm
    · rw [ne] at hb; cases hb
    rcases List.mem_cons.mp hm with rfl | hm
    · rw [bT] at hb; cases hb
    rcases List.mem_cons.mp hm with rfl | hm
    · exact absurd (new md ud) (Nat.not_le.mpr hlt)
    rcases List.mem_cons.mp hm with rfl | hm
    · exact absurd (new mL uL) (Nat.not_le.mpr hlt)
    cases hm
  have topB : ∀ a o, P.kt.get a = some o → h2.get? a = some o ∧ a ∉ [se.a, TT, sd.a, sL.a] := fun a o e => by
    obtain ⟨t1, t2⟩ := topA e
    exact ⟨X2.kb a o (oldb t1 t2), top2 (oldb t1 t2) (Heap.lt_size t1)⟩
  obtain ⟨oc, hoc⟩ := kc
  have nol2 : h2.NoLimit := nolimit_keep C.nol fun o e => X2.kb _ _ (oldb e (topA hoc).2)
  have neq : ∀ {i j : Nat} {s s' : Slot}, slAt st.sl i = some s → slAt st.sl j = some s' → i ≠ j → s.a ≠ s'.a := fun a b c e => c (slAt_inj D'.nd a b e)
  have ndi' := List.nodup_cons.mp ndi
  have ndi2 := List.nodup_cons.mp ndi'.2
  have ned : se.a ≠ sd.a := neq q1 q2 fun e => ndi'.1 (e ▸ .head _)
  have neL : se.a ≠ sL.a := neq q1 q3 fun e => ndi'.1 (e ▸ .tail _ (.head _))
  have ndL : sd.a ≠ sL.a := neq q2 q3 fun e => ndi2.1 (e ▸ .head _)
  have nTd : TT ≠ sd.a := fun e => by rw [e, hd2] at oT; exact nd _ (congrArg Obj.data (Option.some.inj oT))
  have nTL : TT ≠ sL.a := fun e => by rw [e, hL2] at oT; exact nL _ (congrArg Obj.data (Option.some.inj oT))
  have D2 : RepS h2 [se.a, TT, sd.a, sL.a] [se.a, TT, sd.a, sL.a] [] (st2 ⟨TT, a0, a1, a2, a4, pl, sod, soL, h2.objs.size, tk'⟩ se sd sL) h2 tk' := by
    refine ⟨rfl, rfl, fun s hs => ?_, ?_, fun s hs _ => .inl ?_, fun _ _ e _ => e, Nat.le_refl _, fun _ h => (nomatch h), ⟨[], rfl, fun _ h => (nomatch h)⟩, ⟨[], rfl, fun _ h => (nomatch h)⟩⟩
    · rcases List.mem_cons.mp hs with rfl | hs
      · exact oe
      rcases List.mem_cons.mp hs with rfl | hs
      · exact oT
      rcases List.mem_cons.mp hs with rfl | hs
      · exact hd2
      rcases List.mem_cons.mp hs with rfl | hs
      · exact hL2
      cases hs
    · show [se.a, TT, sd.a, sL.a].Nodup
      simp only [List.nodup_cons, List.mem_cons, List.not_mem_nil, or_false, not_or, not_false_eq_true, and_true, List.nodup_nil]
      exact ⟨⟨Ne.symm Te, ned, neL⟩, ⟨nTd, nTL⟩, ndL⟩
    · exact List.mem_map.mpr ⟨s, hs, rfl⟩
  suffices K2 : Ends (Vof P h2 A R d os) h2 [se.a, TT, sd.a, sL.a] [se.a, TT, sd.a, sL.a] [] g d os R (go P n2 (.func r.2.1 r.2.2.1) .base (landT (.ref se.a) r.2.1 r.2.2.1) ks2 [] (st2 ⟨TT, a0, a1, a2, a4, pl, sod, soL, h2.objs.size, tk'⟩ se sd sL) ((.ad L, .ad sL.a) :: catOb [p0, (.tr (flyT (.ref se.a) (.func b0 env0) 0), .tr (flyT (.ref se.a) (.func b0 env0) 0))] (catOb r.1 (goC P n code ks l ⟨[], h.objs.size, tk, []⟩).1))) by
    have fin := sound (A₀ := A) (R₀ := R) (d := d) (os := os) (g := g) (h₀ := h2) (M₀ := [se.a, TT, sd.a, sL.a]) (I₀ := [se.a, TT, sd.a, sL.a]) (O := []) topB nol2 (topB _ _ hoc).2 hA hD hU (fun q => by rw [hF] at q; cases q) n2 (.func r.2.1 r.2.2.1) .base (landT (.ref se.a) r.2.1 r.2.2.1) ks2 .nil _ _ h2 tk' trivial K2 D2
    rw [q7]
    exact fin
  refine ⟨(Prod.mk.inj e2').1, ?_⟩
  have e3 := (Prod.mk.inj e2').2
  cases q9 : (go P n2 (.func r.2.1 r.2.2.1) .base (landT (.ref se.a) r.2.1 r.2.2.1) ks2 [] (st2 ⟨TT, a0, a1, a2, a4, pl, sod, soL, h2.objs.size, tk'⟩ se sd sL) ((.ad L, .ad sL.a) :: catOb [p0, (.tr (flyT (.ref se.a) (.func b0 env0) 0), .tr (flyT (.ref se.a) (.func b0 env0) 0))] (catOb r.1 (goC P n code ks l ⟨[], h.objs.size, tk, []⟩).1))).2 with
  | fail n => rw [q9] at e3; cases e3
  | stop => rw [q9] at e3; cases e3
  | done r3 st3 =>
    rw [q9] at e3
    have e4 : r3 = .ok (.ret (.int ln tok)) := Option.some.inj e3
    subst e4
    intro h3 tk3 D3
    refine hR tok h3 tk3 ⟨fun b o ho hn => ?_, fun b o ho hm => ?_, Nat.le_trans D'.grow (Nat.le_trans G.size D3.grow)⟩
    · have hb := oldb ho hn
      exact D3.keep b o (X2.kb b o hb) (top2 hb (Heap.lt_size ho))
    · obtain ⟨o', ho', hn'⟩ := hob b hm
      rw [ho] at ho'
      cases ho'
      obtain ⟨so, hso⟩ := G.up b o (D'.keep b o ho (fun h => nomatch h)) hn'
      refine ⟨so, D3.keep b _ hso fun hm2 => ?_⟩
      have hlt := Heap.lt_size ho
      rcases List.mem_cons.mp hm2 with rfl | hm2
      · exact absurd (new me ue) (Nat.not_le.mpr hlt)
      rcases List.mem_cons.mp hm2 with rfl | hm2
      · rw [hso] at oT; exact hn' _ (congrArg Obj.data (Option.some.inj oT))
      rcases List.mem_cons.mp hm2 with rfl | hm2
      · exact absurd (new md ud) (Nat.not_le.mpr hlt)
      rcases List.mem_cons.mp hm2 with rfl | hm2
      · exact absurd (new mL uL) (Nat.not_le.mpr hlt)
      cases hm2
set_option maxHeartbeats 0 in
lay_quick Mine.landT
set_option maxHeartbeats 0 in
lay_quick Mine.goL
abbrev goLT := PySem.W.Fast.tw1773441273811585434
theorem goL_eq : goL = goLT := PySem.W.Fast.te1773441273811585434
noncomputable def dictish (o : Obj) : Obj := match o.data with
  | .fields _ => { o with data := .plain }
  | _ => o
theorem dictish_nf {o : Obj} (h : o = dictish o) : ∀ vs, o.data ≠ .fields vs := fun vs q => by
  unfold dictish at h
  rw [q] at h
  have := congrArg Obj.data h
  rw [q] at this
  cases this
abbrev XL := Nat × Nat × (Nat → Nat) × (Nat → SlT)
noncomputable def lineSpec (tx : Str) (ln : Int) (L1 L2 : Addr) (D U i1 i2 : Nat) (x : XL) : CSpec :=
  { code := fun c => fcall 918 [.str tx (tokAt c 0)], pre := [(i1, L1, dictish), (i2, L2, dictish)], res := okV (.int ln (x.2.2.1 0)), upd := [(i1, L1, fun o => { o with slots := x.2.2.2 0 }), (i2, L2, fun o => { o with slots := x.2.2.2 1 })],
    add := [], sz := x.1, tk := x.2.1, fs := [], dl := D, ul := U, pu := false, au := false, pf := [], fl := some [L1, L2], zq := none }
theorem node_line (w : World) (b : Bool) (tx : Str) (ln : Int) (L1 L2 : Addr) (D U : Nat) {i1 i2 : Nat} (hi : i1 ≠ i2) (T : (Nat → Nat) → Nat → Nat → Tele) (v : ∀ f B t, ValidT (par w b D U) 0 0 (T f B t)) (n ks n2 ks2 : Nat) (lix : LdIx)
    (H : ∀ f B t, AllT (T f B t) fun l => ∀ ld, ∃ tok, RunL (goLT (par w b D U) n (fcall 918 [.str tx (f 0)]) ks l ⟨[], B, t, []⟩ n2 ks2 ld lix) (.int ln tok)) : Node (par w b 0 0) 0 0 XL (lineSpec tx ln L1 L2 D U i1 i2) where
  ne := ⟨(0, 0, fun _ => 0, fun _ => #[])⟩
  same := by
    refine ⟨fun c => fcall 918 [.str tx (tokAt c 0)], [(i1, L1, dictish), (i2, L2, dictish)], D, U, [(i1, L1), (i2, L2)], [], some [L1, L2], none, ?_, ?_, fun x => ⟨rfl, rfl, rfl, rfl, rfl, rfl, rfl, rfl⟩, ?_⟩
    · simpa using hi
    · simpa using hi
    · intro c A h g d tk os R ec hA hD hU hC hp hn hun _ hfl _ hR
      obtain ⟨es, hes, hl0⟩ := hfl _ rfl
      rw [ec]
      have hob : ∀ L ∈ [L1, L2], ∃ o, h.get? L = some o ∧ ∀ vs, o.data ≠ .fields vs := fun L hL => by
        rcases List.mem_cons.mp hL with rfl | hL
        · obtain ⟨o, ho, e⟩ := hp _ (.head _)
          exact ⟨o, ho, dictish_nf e⟩
        rcases List.mem_cons.mp hL with rfl | hL
        · obtain ⟨o, ho, e⟩ := hp _ (.tail _ (.head _))
          exact ⟨o, ho, dictish_nf e⟩
        cases hL
      refine by_line (P := par w b D U) (Dv := 0) (Uv := 0) (T (tokAt c) h.objs.size tk) n ks n2 ks2 lix hA hD hU rfl ⟨hC.1, hC.2⟩ ⟨_, kt2 _⟩ hes hl0 hob (v ..) ln ?_ fun tok h3 tk3 E => ?_
      · refine (H (tokAt c) h.objs.size tk).mono fun l hl ld => ?_
        obtain ⟨tok, q⟩ := hl ld
        exact ⟨tok, by rw [← goL_eq] at q; exact q⟩
      · obtain ⟨o1, ho1, _⟩ := hp _ (.head _)
        obtain ⟨o2, ho2, _⟩ := hp _ (.tail _ (.head _))
        obtain ⟨so1, h1⟩ := E.up L1 o1 ho1 (.head _)
        obtain ⟨so2, h2⟩ := E.up L2 o2 ho2 (.tail _ (.head _))
        refine hR (h3.objs.size, tk3, fun _ => tok, fun i => if i = 0 then so1 else so2) h3 ⟨fun b o ho hb => E.keep b o ho fun hm => ?_, rfl, E.size, fun p hp o ho => ?_, fun p hp => (nomatch hp), .nil, fun F hF => (nomatch hF)⟩
        · rcases List.mem_cons.mp hm with rfl | hm
          · exact hb _ (.head _) rfl
          rcases List.mem_cons.mp hm with rfl | hm
          · exact hb _ (.tail _ (.head _)) rfl
          cases hm
        · rcases List.mem_cons.mp hp with rfl | hp
          · have : o = o1 := Option.some.inj (ho.symm.trans ho1)
            subst this; exact h1
          rcases List.mem_cons.mp hp with rfl | hp
          · have : o = o2 := Option.some.inj (ho.symm.trans ho2)
            subst this; exact h2
          cases hp
noncomputable def Tk.nb (k : Tk) : Tk := { k with bh := false }
noncomputable def First (w : World) (b : Bool) (tx : Str) (k : Tk) : Prop := ∀ (la ld : Addr) (kk v : Nat → Nat), Nd w b (cNext w.params la ld kk v tx 0 1 k.kd k.vl k.ln k.bh k.st k.en)
abbrev LnN (w : World) (b : Bool) (tx : Str) (ln : Nat) : Prop := ∀ (L1 L2 : Addr) {i1 i2 : Nat} (hi : i1 ≠ i2), Node (par w b 0 0) 0 0 XL (lineSpec tx ln L1 L2 200 1600 i1 i2)
abbrev vJ {w : World} {b : Bool} {D U : Nat} {tx : Str} (k : Tk) (hx : First w b tx k) (r : XT → VT (par w b D U) 0 0) : VT (par w b D U) 0 0 := vc (cInit w.params tx k) [] (n_init w b tx _ hx) rfl r
theorem nl {w : World} {b : Bool} {tx : Str} {ln : Nat} (V : (Nat → Nat) → Nat → Nat → VT (par w b 200 1600) 0 0) (n ks n2 ks2 : Nat) (lix : LdIx)
    (H : ∀ f B t, AllT (V f B t).T fun l => ∀ ld, ∃ tok, RunL (goLT (par w b 200 1600) n (fcall 918 [.str tx (f 0)]) ks l ⟨[], B, t, []⟩ n2 ks2 ld lix) (.int ln tok)) : LnN w b tx ln := fun L1 L2 {i1 i2} hi => node_line w b tx ln L1 L2 200 1600 hi (fun f B t => (V f B t).T) (fun f B t => (V f B t).v) n ks n2 ks2 lix H
end
section
open PySem PySem.W PySem.W.X PyProof.Rows PySem.Calls PySem.Spec
open AutoSeq1 (wpAny_loadPart')
mutual
inductive RowT : Tr → Prop
  | str (s : Str) : RowT (.str s)
  | lst (l : List Tr) (h : RowTs l) : RowT (.lst l)
inductive RowTs : List Tr → Prop
  | nil : RowTs []
  | cons {t : Tr} {l : List Tr} (a : RowT t) (b : RowTs l) : RowTs (t :: l)
end
mutual
noncomputable def Tr.dep : Tr → Nat
  | .str _ => 0
  | .lst l => depL l + 1
  | .node _ l => depL l + 1
noncomputable def depL : List Tr → Nat
  | [] => 0
  | t :: l => max t.dep (depL l)
end
theorem depL_mem : ∀ {l : List Tr} {t : Tr}, t ∈ l → t.dep ≤ depL l
  | x :: l, t, h => by
    rw [depL]
    rcases List.mem_cons.mp h with rfl | h
    · exact Nat.le_max_left _ _
    · exact Nat.le_trans (depL_mem h) (Nat.le_max_right _ _)
theorem RowTs.mem : ∀ {l : List Tr} {t : Tr}, RowTs l → t ∈ l → RowT t
  | _ :: _, _, .cons a b, h => by
    rcases List.mem_cons.mp h with rfl | h
    · exact a
    · exact b.mem h
section
variable {P P' : Params} {lo hi lo' hi' : Nat} {h : Heap}
theorem trees_len : ∀ {vs : List Value} {ts : List Tr}, IsTrees P lo hi h vs ts → vs.length = ts.length
  | [], [], .nil => rfl
  | _ :: _, _ :: _, .cons _ r => by rw [List.length_cons, List.length_cons, trees_len r]
theorem trees_at : ∀ {vs : List Value} {ts : List Tr}, IsTrees P lo hi h vs ts → ∀ j (h1 : j < vs.length) (h2 : j < ts.length), IsTree P lo hi h vs[j] ts[j]
  | _ :: _, _ :: _, .cons a _, 0, _, _ => a
  | _ :: _, _ :: _, .cons _ r, j + 1, h1, h2 => trees_at r j (Nat.lt_of_succ_lt_succ h1) (Nat.lt_of_succ_lt_succ h2)
end
noncomputable def EqAt (h : Heap) (c : Nat) (x y : Value) : Prop := ∀ (prog : Program) (w : World) (A : Around) (E : Value → Shared → Prop) (s : Shared) (Q : Bool → Shared → Prop), s.heap = h → A.units + c ≤ cLine → Q true s → wpAny (model prog w) A (eqBool x y) Q E s
noncomputable def cmpAns : Nat → Bool
  | 2 => true
  | _ => false
theorem eqs_loop {h : Heap} {c n n2 code : Nat} {a b : Addr} {vs ws : List Value} (hcode : code = 2 ∨ code = 3) (ha : h.get? a = some (listN vs n)) (hb : h.get? b = some (listN ws n2)) (hsz : vs.length = ws.length)
    (he : ∀ j (h1 : j < vs.length) (h2 : j < ws.length), EqAt h c vs[j] ws[j]) (k : Nat) : ∀ i : Nat, vs.length - i = k → ∀ (prog : Program) (w : World) (A : Around) (R : Result → Shared → Prop) (s : Shared), s.heap = h → A.units + (c + 1) ≤ cLine → R (.ok (.ret (.bool (cmpAns code)))) s →
    wpAny (model prog w) A.in1 (Builtin.«list.__eq__.loop» ⟨[.ref a, .ref b, rawInt i, rawInt code], []⟩) (fun fin s' => match fin with | .done f => R (.ok f) s' | .again c' => c'.quiet = true ∧ codeAny (model prog w) A c' R s') (fun e s' => R (.error e) s') s := by
  induction k with
  | zero =>
    intro i hk prog w A R s hs hu h0
    subst hs
    obtain ⟨hp, g, d, tk, os⟩ := s
    have ha' : hp.get? a = some { cls := .type "list", dict := none, data := .seq vs.toArray n, slots := #[] } := ha
    have hb' : hp.get? b = some { cls := .type "list", dict := none, data := .seq ws.toArray n2, slots := #[] } := hb
    have e1 : (vs.toArray)[((i : Nat) : Int).toNat]? = none := by simp; omega
    have e2 : (ws.toArray)[((i : Nat) : Int).toNat]? = none := by simp; omega
    rcases hcode with rfl | rfl
    · wp_walk using wpAny_loadPart' ha', wpAny_loadPart' hb'
      rw [e1, e2]
      wp_walk using wpAny_loadPart' ha', wpAny_loadPart' hb'
      show R (.ok (.ret (.bool (vs.toArray.size == ws.toArray.size)))) _
      simpa [hsz, cmpAns] using h0
    · wp_walk using wpAny_loadPart' ha', wpAny_loadPart' hb'
      rw [e1, e2]
      wp_walk using wpAny_loadPart' ha', wpAny_loadPart' hb'
      show R (.ok (.ret (.bool (vs.toArray.size != ws.toArray.size)))) _
      simpa [hsz, cmpAns] using h0
  | succ k ih =>
    intro i hk prog w A R s hs hu h0
    have hs' := hs
    subst hs
    obtain ⟨hp, g, d, tk, os⟩ := s
    have ha' : hp.get? a = some { cls := .type "list", dict := none, data := .seq vs.toArray n, slots := #[] } := ha
    have hb' : hp.get? b = some { cls := .type "list", dict := none, data := .seq ws.toArray n2, slots := #[] } := hb
    have l1 : i < vs.length := by omega
    have l2 : i < ws.length := by omega
    have e1 : (vs.toArray)[((i : Nat) : Int).toNat]? = some vs[i] := by simp [l1]
    have e2 : (ws.toArray)[((i : Nat) : Int).toNat]? = some ws[i] := by simp [l2]
    have hc : ((i : Int) + 1) = ((i + 1 : Nat) : Int) := by push_cast; rfl
    have fin : ∀ code', code' = code → codeAny (model prog w) A (.builtin "list.__eq__.loop" ⟨[.ref a, .ref b, rawInt ((i + 1 : Nat) : Int), rawInt code'], []⟩) R ⟨hp, g, d, tk, os⟩ := fun code' hc' => by
      subst hc'
      refine codeAny_builtin PySem.MeetsSeq3.entry_eq_loop ?_
      rw [Around.under_plainId PySem.MeetsSeq3.plain_eq_loop _]
      exact ih (i + 1) (by omega) prog w A R _ rfl hu h0
    rcases hcode with rfl | rfl
    · wp_walk using wpAny_loadPart' ha', wpAny_loadPart' hb'
      rw [e1, e2]
      refine wpAny_bind (he i l1 l2 prog w _ _ _ _ rfl (by show A.units + 1 + c ≤ cLine; omega) ?_)
      wp_walk
      rw [hc]
      exact ⟨plainId_quiet PySem.MeetsSeq3.plain_eq_loop _, fin 2 rfl⟩
    · wp_walk using wpAny_loadPart' ha', wpAny_loadPart' hb'
      rw [e1, e2]
      refine wpAny_bind (he i l1 l2 prog w _ _ _ _ rfl (by show A.units + 1 + c ≤ cLine; omega) ?_)
      wp_walk
      rw [hc]
      exact ⟨plainId_quiet PySem.MeetsSeq3.plain_eq_loop _, fin 3 rfl⟩
theorem eqs_head {h : Heap} {c n n2 : Nat} {a b : Addr} {vs ws : List Value} (ha : h.get? a = some (listN vs n)) (hb : h.get? b = some (listN ws n2)) (hsz : vs.length = ws.length)
    (he : ∀ j (h1 : j < vs.length) (h2 : j < ws.length), EqAt h c vs[j] ws[j]) (prog : Program) (w : World) (A : Around) (R : Result → Shared → Prop) (s : Shared) (hs : s.heap = h) (hu : A.units + (c + 1) ≤ cLine) (h0 : R (.ok (.ret (.bool true))) s) :
    wpAny (model prog w) A.in1 (Builtin.«list.__eq__» ⟨[.ref a, .ref b], []⟩) (fun fin s' => match fin with | .done f => R (.ok f) s' | .again c' => c'.quiet = true ∧ codeAny (model prog w) A c' R s') (fun e s' => R (.error e) s') s := by
  have hs' := hs
  subst hs
  obtain ⟨hp, g, d, tk, os⟩ := s
  have ha' : hp.get? a = some { cls := .type "list", dict := none, data := .seq vs.toArray n, slots := #[] } := ha
  have hb' : hp.get? b = some { cls := .type "list", dict := none, data := .seq ws.toArray n2, slots := #[] } := hb
  have f3 := AutoSeq1.sub_list_list
  have hne : ¬ (vs.toArray.size != ws.toArray.size) = true := by simp [hsz]
  wp_walk using wpAny_loadPart' ha', wpAny_loadPart' hb'
  exact ⟨plainId_quiet PySem.MeetsSeq3.plain_eq_loop _, codeAny_builtin PySem.MeetsSeq3.entry_eq_loop (by
    rw [Around.under_plainId PySem.MeetsSeq3.plain_eq_loop _]
    exact eqs_loop (.inl rfl) ha hb hsz he _ 0 rfl prog w A R _ rfl hu h0)⟩
theorem nes_head {h : Heap} {c n n2 : Nat} {a b : Addr} {vs ws : List Value} (ha : h.get? a = some (listN vs n)) (hb : h.get? b = some (listN ws n2)) (hsz : vs.length = ws.length)
    (he : ∀ j (h1 : j < vs.length) (h2 : j < ws.length), EqAt h c vs[j] ws[j]) (prog : Program) (w : World) (A : Around) (R : Result → Shared → Prop) (s : Shared) (hs : s.heap = h) (hu : A.units + (c + 1) ≤ cLine) (h0 : R (.ok (.ret (.bool false))) s) :
    wpAny (model prog w) A.in1 (Builtin.«list.__ne__» ⟨[.ref a, .ref b], []⟩) (fun fin s' => match fin with | .done f => R (.ok f) s' | .again c' => c'.quiet = true ∧ codeAny (model prog w) A c' R s') (fun e s' => R (.error e) s') s := by
  have hs' := hs
  subst hs
  obtain ⟨hp, g, d, tk, os⟩ := s
  have ha' : hp.get? a = some { cls := .type "list", dict := none, data := .seq vs.toArray n, slots := #[] } := ha
  have hb' : hp.get? b = some { cls := .type "list", dict := none, data := .seq ws.toArray n2, slots := #[] } := hb
  have f3 := AutoSeq1.sub_list_list
  have hne : ¬ (vs.toArray.size != ws.toArray.size) = true := by simp [hsz]
  wp_walk using wpAny_loadPart' ha', wpAny_loadPart' hb'
  exact ⟨plainId_quiet PySem.MeetsSeq3.plain_eq_loop _, codeAny_builtin PySem.MeetsSeq3.entry_eq_loop (by
    rw [Around.under_plainId PySem.MeetsSeq3.plain_eq_loop _]
    exact eqs_loop (.inr rfl) ha hb hsz he _ 0 rfl prog w A R _ rfl hu h0)⟩
theorem eqAt_str {h : Heap} {c : Nat} (x : Str) (t u : Nat) : EqAt h c (.str x t) (.str x u) := fun prog w A E s Q _ _ hq => wpAny_eqBool_str (by simpa using hq)
theorem eqAt_list {h : Heap} {c n n2 : Nat} {a b : Addr} {vs ws : List Value} (ha : h.get? a = some (listN vs n)) (hb : h.get? b = some (listN ws n2)) (hsz : vs.length = ws.length)
    (he : ∀ j (h1 : j < vs.length) (h2 : j < ws.length), EqAt h c vs[j] ws[j]) : EqAt h (c + 3) (.ref a) (.ref b) := fun prog w A E s Q hs hu hq => by
  have ta : s.TypeIs (.ref a) "list" := ⟨_, hs ▸ ha, rfl⟩
  have tb : s.TypeIs (.ref b) "list" := ⟨_, hs ▸ hb, rfl⟩
  unfold eqBool
  try with_reducible refine wpAny_holding ?_
  show wpAny _ _ (if (Value.ref a == Value.ref b) = true then _ else _) Q E s
  by_cases hab : (Value.ref a == Value.ref b) = true
  · rw [if_pos hab]
    exact wpAny_bind (wpAny_rule (wpAny_pure hq))
  · rw [if_neg hab]
    refine wpAny_bind (wpAny_richCompare_same_room (op := .Eq) ta tb PySem.F.slot_list_eq (wpAny_call (Q := fun v s' => v ≠ .notImplemented ∧ wpAny (model prog w) A (truthOfDropped v) Q E s') (codeAny_call_builtin PySem.F.slot_list_eq.plain PySem.F.entry_list_eq (PySem.F.slot_list_eq.check _ _ _ _ _ _ _ _ ta (PySem.F.args_list_eq_2 _ _) (eqs_head ha hb hsz he prog w A (fun r s' => match r with | .ok (.ret v) => v ≠ .notImplemented ∧ wpAny (model prog w) A (truthOfDropped v) Q E s' | .ok _ => False | .error e => E e s') s hs ?_ ?_)))) ?_)
    · have hu' : A.units + (c + 3) ≤ cLine := hu
      show A.units + (c + 1) ≤ cLine
      omega
    · exact ⟨fun e => (nomatch e), wpAny_truthy_bool hq⟩
    · have hu' : A.units + (c + 3) ≤ cLine := hu
      show A.units < cLine
      omega
end
section
open PySem PySem.W PySem.W.X PyProof.Rows PySem.Calls PySem.Spec
abbrev RunV (w : World) (b : Bool) (f : Nat → Nat) (B T PD PU : Nat) (C : Cn) (sl : List Slot) (O : List Fact) (ids nids : List Nat) (n ks : Nat) (l : List CSpec) (y : Nat → Nat) (ex : List (Addr × Obj)) (fs : List Fact) : Prop :=
  RunEq sl.length ids nids (goT (par w b PD PU) n (C.co f) ks l ⟨sl, B, T, O⟩) (C.res y) (upsP C.sl (C.upo y) C.upi) (C.add y ++ ex) fs
theorem node_factV {w : World} {b : Bool} {Dv Uv PD PU e u : Nat} {C : Cn} (ok : chk C = true) {ix : List Nat} (I : IxOk C ix) (hD : PD ≤ C.D + e) (hU : PU ≤ C.U + u) (ids nids : List Nat) (n ks : Nat) (hn : ndB nids = true) (hp : C.pu = false) (hau : C.au = false)
    (T : (Nat → Nat) → Nat → Nat → Tele) (v : ∀ f B t, ValidT (par w b PD PU) Dv Uv (T f B t))
    (run : ∀ f B t, AllT (T f B t) fun l => ∃ y ex fs, RunV w b f B t PD PU C C.sl [] ids nids n ks l y ex fs ∧
      ∀ h', B ≤ h'.objs.size → (∀ s ∈ C.add y ++ ex, h'.get? s.1 = some s.2 ∧ B ≤ s.1 ∧ s.1 < h'.objs.size) → (∀ F ∈ fs, F.P h' ∧ F.Stable ∧ B ≤ F.lo ∧ F.hi ≤ h'.objs.size) → ∀ F ∈ C.fs y h'.objs.size, F.P h' ∧ F.Stable ∧ B ≤ F.lo ∧ F.hi ≤ h'.objs.size) :
    Node (par w b 0 0) (Dv + e) (Uv + u) XT (C.spec ix) := by
  obtain ⟨G, hu⟩ := chk_good ok
  refine node_of G I fun f A h g d tk os R hA hD' hU' hC own nd hR => ?_
  have hcs : cStatics ∉ C.mu := (hC.top _ _ (kt2 _)).2
  refine by_go (P := par w b PD PU) (Dv := Dv) (Uv := Uv) (mu := C.mu) (T f h.objs.size tk) n ks C.sl [] (fun _ h => nomatch h) hA (by show A.depth + Dv + PD ≤ _; omega) (by show A.units + Uv + PU ≤ _; omega) ⟨hC.1, hC.2⟩ own nd hu hcs (fun h => nomatch h) (v ..) ?_
  refine (run f h.objs.size tk).mono fun l ⟨y, ex, fs, e, hfs⟩ => ends_of (ids := ids) (nids := nids) (r := C.res y) (ups := upsP C.sl (C.upo y) C.upi) (adds := C.add y ++ ex) (fs := fs) (k := C.sl.length) (by rw [goT_eq]; exact e) (List.length_map ..) (ndB_nd hn) fun h' tk' F => ?_
  have hfs' := hfs h' F.grow (fun s hs => ⟨(F.add s hs).1, (F.add s hs).2, Heap.lt_size (F.add s hs).1⟩) (fun G hG => let ⟨a, b, d⟩ := F.fact G hG; ⟨a, b, F.new0 G hG, d⟩)
  refine hR (h'.objs.size, tk', y) h' ⟨fun b o e1 e2 => F.keep b o e1 fun hm => ?_, by show _ = szOf C.pu _ _; rw [hp]; rfl, F.grow, fun p hp o _ => ?_, fun p hp => F.add p (List.mem_append_left _ hp), ?_, fun F' hF' => ?_⟩
  · obtain ⟨j, hj, rfl⟩ := List.mem_map.mp hm
    have hm2 : (natAt ix j, adAt C.sl j) ∈ (updP ix C.sl (C.upo y) C.upi).map (fun p => (p.1, p.2.1)) := by rw [updP_map]; exact List.mem_map.mpr ⟨j, hj, rfl⟩
    obtain ⟨p, hp, ep⟩ := List.mem_map.mp hm2
    exact e2 p hp (Prod.mk.inj ep).2.symm
  · obtain ⟨j, hj, ea, eo⟩ := updP_mem (ix := ix) (sl := C.sl) (o := C.upo y) hp
    rw [ea, eo]
    exact F.own _ (upsP_mem hj)
  · have := F.nd
    rw [List.map_append] at this
    exact (List.nodup_append.mp this).1
  · have z := hfs' F' hF'
    refine ⟨z.1, z.2.1, z.2.2.1, z.2.2.2, fun ha => ?_⟩
    have : C.au = true := ha
    rw [hau] at this; cases this
theorem Node.more {P : Par} {Dv Uv Dv' Uv' : Nat} {X : Type} {s : X → CSpec} (n : Node P Dv Uv X s) (hD : Dv ≤ Dv') (hU : Uv ≤ Uv') : Node P Dv' Uv' X s where
  ne := n.ne
  same := by
    obtain ⟨code, pre, dl, ul, um, pf, fl, zq, a1, a2, a3, a4⟩ := n.same
    exact ⟨code, pre, dl, ul, um, pf, fl, zq, a1, a2, a3, fun c A h g d tk os R b1 b2 b3 b4 => a4 c A h g d tk os R b1 b2 (by omega) (by omega)⟩
theorem Node.shift {P : Par} {Dv Uv : Nat} {C C' : Cn} {ix : List Nat} (n : Node P Dv Uv XT (C.spec ix)) (e : C' = { C with D := C'.D, U := C'.U }) (hD : C.D + Dv ≤ C'.D) (hU : C.U + Uv ≤ C'.U) : Node P 0 0 XT (C'.spec ix) where
  ne := n.ne
  same := by
    obtain ⟨code, pre, dl, ul, um, pf, fl, zq, a1, a2, a3, a4⟩ := n.same
    rw [e]
    refine ⟨code, pre, C'.D, C'.U, um, pf, fl, zq, a1, a2, fun x => ?_, fun c A h g d tk os R b1 b2 b3 b4 b5 b6 b7 b8 b9 b10 b11 hR => a4 c A h g d tk os R b1 b2 ?_ ?_ b5 b6 b7 b8 b9 b10 b11 fun x h' q => hR x h' ⟨q.1, q.2, q.3, q.4, q.5, q.6, q.7⟩⟩
    · obtain ⟨c1, c2, c3, c4, c5, c6, c7, c8⟩ := a3 x
      exact ⟨c1, c2, rfl, rfl, c5, c6, c7, c8⟩
    · obtain ⟨x⟩ := n.ne
      have : C.D = dl := (a3 x).2.2.1
      omega
    · obtain ⟨x⟩ := n.ne
      have : C.U = ul := (a3 x).2.2.2.1
      omega
structure OpenG (w : World) (b : Bool) (Dv Uv PD PU : Nat) (C : Cn) (f : Nat → Nat) (h : Heap) : Prop where
  x : ∃ (sl : List Slot) (O : List Fact) (nids : List Nat) (n ks : Nat) (T : Nat → Nat → Tele), (∀ s ∈ sl, h.get? s.a = some s.o ∧ s.u = false) ∧ (sl.map (·.a)).Nodup ∧ (∀ F ∈ O, F.P h ∧ F.Stable ∧ F.hi ≤ h.objs.size) ∧ ndB nids = true ∧
      (∀ B t, ValidT (par w b PD PU) Dv Uv (T B t)) ∧ ∀ B t, AllT (T B t) fun l => ∃ y ex nw, RunV w b f B t PD PU C sl O [] nids n ks l y ex (nw ++ O) ∧
      ∀ h', B ≤ h'.objs.size → (∀ s ∈ C.add y ++ ex, h'.get? s.1 = some s.2 ∧ B ≤ s.1 ∧ s.1 < h'.objs.size) → (∀ F ∈ nw, F.P h' ∧ F.Stable ∧ B ≤ F.lo ∧ F.hi ≤ h'.objs.size) → ∀ F ∈ C.fs y h'.objs.size, F.P h' ∧ F.Stable ∧ B ≤ F.lo ∧ F.hi ≤ h'.objs.size
theorem node_open {w : World} {b : Bool} {Dv Uv PD PU e u : Nat} {C : Cn} {ix : List Nat} (I : IxOk C ix) (hsl : C.sl = []) (hupi : C.upi = []) (hD : PD ≤ C.D + e) (hU : PU ≤ C.U + u) (hp : C.pu = false) (hau : C.au = false)
    (H : ∀ (f : Nat → Nat) (h : Heap), (∀ p ∈ C.pf, p.2.P h ∧ p.2.Stable ∧ p.2.hi ≤ h.objs.size) → OpenG w b Dv Uv PD PU C f h) :
    Node (par w b 0 0) (Dv + e) (Uv + u) XT (C.spec ix) := by
  have G : Good C := ⟨by rw [hupi]; exact .nil, fun j hj => by rw [hupi] at hj; cases hj⟩
  refine node_ofF G I fun f A h g d tk os R hA hD' hU' hC own nd hpf _ _ hR => ?_
  obtain ⟨⟨sl, O, nids, n, ks, T, h1, h2, h3, hn, v, run⟩⟩ := H f h hpf
  have hmu : C.mu = [] := by unfold Cn.mu; rw [hupi]; rfl
  refine by_go (P := par w b PD PU) (Dv := Dv) (Uv := Uv) (mu := []) (T h.objs.size tk) n ks sl O (fun F hF => ⟨(h3 F hF).1, (h3 F hF).2.1, (h3 F hF).2.2, fun s hs hu => by rw [(h1 s hs).2] at hu; cases hu⟩) hA (by show A.depth + Dv + PD ≤ _; omega) (by show A.units + Uv + PU ≤ _; omega) ⟨fun a o e => ⟨(hC.1 a o e).1, fun h => nomatch h⟩, hC.2⟩ (fun s hs => (h1 s hs).1) h2 (fun s hs hu => by rw [(h1 s hs).2] at hu; cases hu) (fun h => nomatch h) (fun h => nomatch h) (v ..) ?_
  refine (run h.objs.size tk).mono fun l ⟨y, ex, nw, e, hfs⟩ => ends_of (ids := []) (nids := nids) (r := C.res y) (ups := upsP C.sl (C.upo y) C.upi) (adds := C.add y ++ ex) (fs := nw ++ O) (k := sl.length) (by rw [goT_eq]; exact e) (List.length_map ..) (ndB_nd hn) fun h' tk' F => ?_
  have hfs' := hfs h' F.grow (fun s hs => ⟨(F.add s hs).1, (F.add s hs).2, Heap.lt_size (F.add s hs).1⟩) (fun G hG => let ⟨a, b, d⟩ := F.fact G (List.mem_append_left _ hG); ⟨a, b, F.newO G hG, d⟩)
  refine hR (h'.objs.size, tk', y) h' ⟨fun b o e1 _ => F.keep b o e1 (fun hm => (nomatch hm)), by show _ = szOf C.pu _ _; rw [hp]; rfl, F.grow, fun p hp o _ => ?_, fun p hp => F.add p (List.mem_append_left _ hp), ?_, fun F' hF' => ?_⟩
  · have hp' : p ∈ updP ix C.sl (C.upo y) C.upi := hp
    rw [hupi] at hp'
    cases hp'
  · have := F.nd
    rw [List.map_append] at this
    exact (List.nodup_append.mp this).1
  · have z := hfs' F' hF'
    refine ⟨z.1, z.2.1, z.2.2.1, z.2.2.2, fun ha => ?_⟩
    have : C.au = true := ha
    rw [hau] at this; cases this
abbrev NdV (w : World) (b : Bool) (Dv Uv : Nat) (C : Cn) : Prop := ∀ {ix : List Nat}, IxOk C ix → Node (par w b 0 0) Dv Uv XT (C.spec ix)
theorem Node.dm {w : World} {b : Bool} {D U D' U' Dv Uv : Nat} {X : Type} {s : X → CSpec} (n : Node (par w b D U) 0 0 X s) : Node (par w b D' U') Dv Uv X s := (n.more (Nat.zero_le _) (Nat.zero_le _)).du
noncomputable def vm {w : World} {b : Bool} {D U Dv Uv : Nat} (C : Cn) (ix : List Nat) (h : Nd w b C) (e : chkI C ix = true) (r : XT → VT (par w b D U) Dv Uv) : VT (par w b D U) Dv Uv := ⟨.cons XT (C.spec ix) fun x => (r x).T, Node.dm (h (ixOk e)), fun x => (r x).v⟩
noncomputable def vb {w : World} {b : Bool} {D U Dv Uv : Nat} (C : Cn) (ix : List Nat) (h : NdV w b Dv Uv C) (e : chkI C ix = true) (r : XT → VT (par w b D U) Dv Uv) : VT (par w b D U) Dv Uv := ⟨.cons XT (C.spec ix) fun x => (r x).T, Node.du (h (ixOk e)), fun x => (r x).v⟩
abbrev vmE {w : World} {b : Bool} {D U Dv Uv : Nat} (s t : String) (v : Bool) (h : ((Z s).cps.toList == (Z t).cps.toList) = v) (r : XT → VT (par w b D U) Dv Uv) : VT (par w b D U) Dv Uv := vm (cStrEq (Z s) (Z t) v) [] (n_str_eq w b _ _ _ h) rfl r
abbrev vmG {w : World} {b : Bool} {D U Dv Uv : Nat} (x y : Int) (v : Bool) (h : decide (x ≥ y) = v) (r : XT → VT (par w b D U) Dv Uv) : VT (par w b D U) Dv Uv := vm (cGe x y v) [] (n_ge w b _ _ _ h) rfl r
theorem nV {w : World} {b : Bool} {Dv Uv e u : Nat} {C : Cn} (PD PU : Nat) (ids nids : List Nat) (n ks : Nat) (V : (Nat → Nat) → Nat → Nat → VT (par w b PD PU) Dv Uv) (run : ∀ f B t, AllT (V f B t).T fun l => ∃ y ex fs, RunV w b f B t PD PU C C.sl [] ids nids n ks l y ex fs ∧
      ∀ h', B ≤ h'.objs.size → (∀ s ∈ C.add y ++ ex, h'.get? s.1 = some s.2 ∧ B ≤ s.1 ∧ s.1 < h'.objs.size) → (∀ F ∈ fs, F.P h' ∧ F.Stable ∧ B ≤ F.lo ∧ F.hi ≤ h'.objs.size) → ∀ F ∈ C.fs y h'.objs.size, F.P h' ∧ F.Stable ∧ B ≤ F.lo ∧ F.hi ≤ h'.objs.size) (ok : chk C = true := by rfl') (hD : PD ≤ C.D + e := by exact Nat.le_refl _) (hU : PU ≤ C.U + u := by exact Nat.le_refl _) (hn : ndB nids = true := by rfl') (hp : C.pu = false := by exact rfl) (hau : C.au = false := by exact rfl) : NdV w b (Dv + e) (Uv + u) C := fun {ix} I => node_factV ok I hD hU ids nids n ks hn hp hau (fun f B t => (V f B t).T) (fun f B t => (V f B t).v) run
theorem op0 (w b) (R : Rd) (n : Int) (a : Ca) (k0 k1 : Tk) (can : Bool) (hw : R.P = w.params) (hn : n ≤ 20) (h0 : Nxt w b R (tN k0 "b") (tE k1)) : Nd w b (cAsT R (cuA n (tN k0 "b") a) (tE k1) can (Z "Name") k0.ln (.node (Z "Name") [.str (Z "b")]) 160 1300) := nf [9, 11] [0, 1, 2, 3, 4] 345 (Kk [Kpb,Kgm,Kgv,Kje,Kie,Kiz,Kgv,Kda]) (fun f B T => vc (cGoIn R (cuA n (tN k0 "b") a)) [1, 2] (n_goIn w b R _ (dn (n := n) (by omega))) rfl fun x1 => vc (cUnN R ((cuA (n + 1) k0 (a.pY x1.2.2)).as sN (Z "b")) (tE k1)) [3, 4, 5, 6, 7, 8] (n_un0 w b R _ _ _ hw (h0 _ rfl rfl rfl) (by rfl')) rfl fun x2 => vc (cPrio R (cuA (n + 1) (tE k1) (aY x2.2.2)) can 0) [8, 9, 0, 1] (n_prioO_false w b R _ _ (by rfl') (n_word0 w b R _ _ (by rfl')) (n_word0 w b R _ _ (by rfl'))) rfl fun x3 => vcG 0 1 false rfl fun x4 => vc (cEatN R (cuA (n + 1) (tE k1) (aY x2.2.2)) (Z "?")) [8, 9, 0, 1] (n_eatN w b R _ _ (n_sign0 w b R _ _ (by rfl'))) rfl fun x5 => vcE "end" "punct" false (by rfl') fun x6 => vc (cGoOut' R (cuA (n + 1) (tE k1) (aY x2.2.2)) n) [8, 9] (n_goOut' w b R _ _ (dm n)) rfl fun x7 => ve) fun f B T x1 x2 x3 x4 x5 x6 x7 => ⟨(natAt (yH ((aY x2.2.2).pY x7.2.2) (rn x2.2.2 29 9 [0, 0, 0, B]))), [((x2.2.2 31), listO [.str (Z "b") (x2.2.2 40)])], [], by cases b <;> rfl', f1 fun h' hs hf m => nT (m 2 rfl) (m 3 rfl) (m 4 rfl) (.cons (.str _ _) .nil)⟩
theorem op1 (w b) (R : Rd) (n : Int) (a : Ca) (k0 k1 k2 k3 : Tk) (can : Bool) (hw : R.P = w.params) (hn : n ≤ 20) (h0 : Nxt w b R (tN k0 "b") (tP k1 "+")) (h1 : Nxt w b R (tP k1 "+") (tN k2 "c")) (h2 : Nxt w b R (tN k2 "c") (tE k3)) : Nd w b (cAsT R (cuA n (tN k0 "b") a) (tE k3) can (Z "Binary") k0.ln (.node (Z "Binary") [.str (Z "+"), .node (Z "Name") [.str (Z "b")], .node (Z "Name") [.str (Z "c")]]) 160 1300) := nf [20, 22] [3, 4, 0, 1, 2, 13, 14, 15, 5, 6, 7] 663 (Kk [Kpb,Kdi,Kkl,Knq,Kgv,Knw,Kng,Kna,Kki,Kdy,Knk,Kph,Kme,Kpw,Kes,Kro,Kni,Kaf,Kdk,147,Kei,Kah,Kez,148,Kqc,Kfn,Kei,Kcr,Kcr,Kah,Kgk,Kaf,147]) (fun f B T => vc (cGoIn R (cuA n (tN k0 "b") a)) [1, 2] (n_goIn w b R _ (dn (n := n) (by omega))) rfl fun x1 => vc (cUnN R ((cuA (n + 1) k0 (a.pY x1.2.2)).as sN (Z "b")) (tP k1 "+")) [3, 4, 5, 6, 7, 8] (n_un1 w b R _ _ _ hw (h0 _ rfl rfl rfl) (by rfl') (by rfl') (by rfl') (by rfl') (by rfl')) rfl fun x2 => vc (cPrio R (cuA (n + 1) (tP k1 "+") (aY x2.2.2)) can 9) [8, 9, 0, 1] (n_prioP w b R _ _ 9 (by rfl') (by rfl')) rfl fun x3 => vcG 9 1 true rfl fun x4 => vc (cPrio R (cuA (n + 1) (tP k1 "+") (aY x2.2.2)) can 9) [8, 9, 0, 1] (n_prioP w b R _ _ 9 (by rfl') (by rfl')) rfl fun x5 => vc (cTake R (cuA (n + 1) (tP k1 "+") (aY x2.2.2)) (tN k2 "c")) [8, 9, 10, 11] (h1 _ rfl rfl rfl) rfl fun x6 => vc (cUnN R ((cuA (n + 1) k2 (aY x6.2.2)).as sN (Z "c")) (tE k3)) [11, 12, 13, 14, 1, 2] (n_un0 w b R _ _ _ hw (h2 _ rfl rfl rfl) (by rfl')) rfl fun x7 => vc (cPrio R (cuA (n + 1) (tE k3) (aY x7.2.2)) can 0) [16, 17, 0, 1] (n_prioO_false w b R _ _ (by rfl') (n_word0 w b R _ _ (by rfl')) (n_word0 w b R _ _ (by rfl'))) rfl fun x8 => vcG 0 10 false rfl fun x9 => vc (cNode R.P (Z "Binary") k0.ln x8.1) [] (n_nodeP w b hw _ _ _) rfl fun x10 => vc (cPrio R (cuA (n + 1) (tE k3) (aY x7.2.2)) can 0) [19, 20, 3, 4] (n_prioO_false w b R _ _ (by rfl') (n_word0 w b R _ _ (by rfl')) (n_word0 w b R _ _ (by rfl'))) rfl fun x11 => vcG 0 1 false rfl fun x12 => vc (cEatN R (cuA (n + 1) (tE k3) (aY x7.2.2)) (Z "?")) [19, 20, 3, 4] (n_eatN w b R _ _ (n_sign0 w b R _ _ (by rfl'))) rfl fun x13 => vcE "end" "punct" false (by rfl') fun x14 => vc (cGoOut' R (cuA (n + 1) (tE k3) (aY x7.2.2)) n) [19, 20] (n_goOut' w b R _ _ (dm n)) rfl fun x15 => ve) fun f B T x1 x2 x3 x4 x5 x6 x7 x8 x9 x10 x11 x12 x13 x14 x15 => ⟨(natAt (yH ((aY x7.2.2).pY x15.2.2) ((x10.2.2 0) :: (x10.2.2 1) :: x8.1 :: (rn x10.2.2 2 6 [0, 0, 0, B])))), ((x8.1, listO [.str (Z "+") (x2.2.2 14), .ref (x2.2.2 29), .ref (x7.2.2 29)]) :: (nmO R.P "b" k0.ln x2.2.2 (nmO R.P "c" k2.ln x7.2.2 []))), [], by cases b <;> rfl', f1 fun h' hs hf m => nT (m 2 rfl) (m 3 rfl) (m 4 rfl) (.cons (.str _ _) (.cons (nT (m 5 rfl) (m 6 rfl) (m 7 rfl) (.cons (.str _ _) .nil)) (.cons (nT (m 8 rfl) (m 9 rfl) (m 10 rfl) (.cons (.str _ _) .nil)) .nil)))⟩
theorem op2t (w b) (R : Rd) (n : Int) (a : Ca) (k0 k1 k2 k3 : Tk) (hw : R.P = w.params) (hn : n ≤ 20) (h0 : Nxt w b R (tN k0 "b") (tK k1 "in")) (h1 : Nxt w b R (tK k1 "in") (tN k2 "c")) (h2 : Nxt w b R (tN k2 "c") (tE k3)) : Nd w b (cAsT R (cuA n (tN k0 "b") a) (tE k3) true (Z "Binary") k0.ln (.node (Z "Binary") [.str (Z "in"), .node (Z "Name") [.str (Z "b")], .node (Z "Name") [.str (Z "c")]]) 160 1300) := nf [20, 22] [3, 4, 0, 1, 2, 13, 14, 15, 5, 6, 7] 663 (Kk [Kpb,Kdi,Kkl,Knq,Kgv,Knw,Kng,Kna,Kki,Kdy,Knk,Kph,Kme,Kpw,Kes,Kro,Kni,Kaf,Kdk,147,Kei,Kah,Kez,148,Kqc,Kfn,Kei,Kcr,Kcr,Kah,Kgk,Kaf,147]) (fun f B T => vc (cGoIn R (cuA n (tN k0 "b") a)) [1, 2] (n_goIn w b R _ (dn (n := n) (by omega))) rfl fun x1 => vc (cUnN R ((cuA (n + 1) k0 (a.pY x1.2.2)).as sN (Z "b")) (tK k1 "in")) [3, 4, 5, 6, 7, 8] (n_un0 w b R _ _ _ hw (h0 _ rfl rfl rfl) (by rfl')) rfl fun x2 => vc (cPrio R (cuA (n + 1) (tK k1 "in") (aY x2.2.2)) true 7) [8, 9, 0, 1] (n_prioI_true w b R _ (by rfl') (n_word_true w b R _ _ (by rfl') (by rfl'))) rfl fun x3 => vcG 7 1 true rfl fun x4 => vc (cPrio R (cuA (n + 1) (tK k1 "in") (aY x2.2.2)) true 7) [8, 9, 0, 1] (n_prioI_true w b R _ (by rfl') (n_word_true w b R _ _ (by rfl') (by rfl'))) rfl fun x5 => vc (cTake R (cuA (n + 1) (tK k1 "in") (aY x2.2.2)) (tN k2 "c")) [8, 9, 10, 11] (h1 _ rfl rfl rfl) rfl fun x6 => vc (cUnN R ((cuA (n + 1) k2 (aY x6.2.2)).as sN (Z "c")) (tE k3)) [11, 12, 13, 14, 1, 2] (n_un0 w b R _ _ _ hw (h2 _ rfl rfl rfl) (by rfl')) rfl fun x7 => vc (cPrio R (cuA (n + 1) (tE k3) (aY x7.2.2)) true 0) [16, 17, 0, 1] (n_prioO_false w b R _ _ (by rfl') (n_word0 w b R _ _ (by rfl')) (n_word0 w b R _ _ (by rfl'))) rfl fun x8 => vcG 0 8 false rfl fun x9 => vc (cNode R.P (Z "Binary") k0.ln x8.1) [] (n_nodeP w b hw _ _ _) rfl fun x10 => vc (cPrio R (cuA (n + 1) (tE k3) (aY x7.2.2)) true 0) [19, 20, 3, 4] (n_prioO_false w b R _ _ (by rfl') (n_word0 w b R _ _ (by rfl')) (n_word0 w b R _ _ (by rfl'))) rfl fun x11 => vcG 0 1 false rfl fun x12 => vc (cEatN R (cuA (n + 1) (tE k3) (aY x7.2.2)) (Z "?")) [19, 20, 3, 4] (n_eatN w b R _ _ (n_sign0 w b R _ _ (by rfl'))) rfl fun x13 => vcE "end" "punct" false (by rfl') fun x14 => vc (cGoOut' R (cuA (n + 1) (tE k3) (aY x7.2.2)) n) [19, 20] (n_goOut' w b R _ _ (dm n)) rfl fun x15 => ve) fun f B T x1 x2 x3 x4 x5 x6 x7 x8 x9 x10 x11 x12 x13 x14 x15 => ⟨(natAt (yH ((aY x7.2.2).pY x15.2.2) ((x10.2.2 0) :: (x10.2.2 1) :: x8.1 :: (rn x10.2.2 2 6 [0, 0, 0, B])))), ((x8.1, listO [.str (Z "in") (x2.2.2 14), .ref (x2.2.2 29), .ref (x7.2.2 29)]) :: (nmO R.P "b" k0.ln x2.2.2 (nmO R.P "c" k2.ln x7.2.2 []))), [], by cases b <;> rfl', f1 fun h' hs hf m => nT (m 2 rfl) (m 3 rfl) (m 4 rfl) (.cons (.str _ _) (.cons (nT (m 5 rfl) (m 6 rfl) (m 7 rfl) (.cons (.str _ _) .nil)) (.cons (nT (m 8 rfl) (m 9 rfl) (m 10 rfl) (.cons (.str _ _) .nil)) .nil)))⟩
theorem op2f (w b) (R : Rd) (n : Int) (a : Ca) (k0 k1 : Tk) (hw : R.P = w.params) (hn : n ≤ 20) (h0 : Nxt w b R (tN k0 "b") (tK k1 "in")) : Nd w b (cAsT R (cuA n (tN k0 "b") a) (tK k1 "in") false (Z "Name") k0.ln (.node (Z "Name") [.str (Z "b")]) 160 1300) := nf [9, 11] [0, 1, 2, 3, 4] 345 (Kk [Kpb,Kgm,Kgv,Kje,Kie,Kiz,Kgv,Kda]) (fun f B T => vc (cGoIn R (cuA n (tN k0 "b") a)) [1, 2] (n_goIn w b R _ (dn (n := n) (by omega))) rfl fun x1 => vc (cUnN R ((cuA (n + 1) k0 (a.pY x1.2.2)).as sN (Z "b")) (tK k1 "in")) [3, 4, 5, 6, 7, 8] (n_un0 w b R _ _ _ hw (h0 _ rfl rfl rfl) (by rfl')) rfl fun x2 => vc (cPrio R (cuA (n + 1) (tK k1 "in") (aY x2.2.2)) false 0) [8, 9, 0, 1] (n_prioI_false w b R _ (by rfl') (n_word_true w b R _ _ (by rfl') (by rfl'))) rfl fun x3 => vcG 0 1 false rfl fun x4 => vc (cEatN R (cuA (n + 1) (tK k1 "in") (aY x2.2.2)) (Z "?")) [8, 9, 0, 1] (n_eatN w b R _ _ (n_sign0 w b R _ _ (by rfl'))) rfl fun x5 => vcE "keyword" "punct" false (by rfl') fun x6 => vc (cGoOut' R (cuA (n + 1) (tK k1 "in") (aY x2.2.2)) n) [8, 9] (n_goOut' w b R _ _ (dm n)) rfl fun x7 => ve) fun f B T x1 x2 x3 x4 x5 x6 x7 => ⟨(natAt (yH ((aY x2.2.2).pY x7.2.2) (rn x2.2.2 29 9 [0, 0, 0, B]))), [((x2.2.2 31), listO [.str (Z "b") (x2.2.2 40)])], [], by cases b <;> rfl', f1 fun h' hs hf m => nT (m 2 rfl) (m 3 rfl) (m 4 rfl) (.cons (.str _ _) .nil)⟩
theorem op3 (w b) (R : Rd) (n : Int) (a : Ca) (k0 k1 k2 k3 k4 k5 : Tk) (can : Bool) (hw : R.P = w.params) (hn : n ≤ 20) (h0 : Nxt w b R (tP k0 "(") (tN k1 "b")) (h1 : Nxt w b R (tN k1 "b") (tK k2 "in")) (h2 : Nxt w b R (tK k2 "in") (tN k3 "c")) (h3 : Nxt w b R (tN k3 "c") (tP k4 ")")) (h4 : Nxt w b R (tP k4 ")") (tE k5)) : Nd w b (cAsT R (cuA n (tP k0 "(") a) (tE k5) can (Z "Binary") k1.ln (.node (Z "Binary") [.str (Z "in"), .node (Z "Name") [.str (Z "b")], .node (Z "Name") [.str (Z "c")]]) 160 1300) := nf [34, 36] [1, 2, 3, 4, 5, 16, 17, 18, 8, 9, 10] 1896 (Kk [Kjt,Kpm,Kon,Kdb,Kon,Kfb,Kdh,Ken,Kis,Kkg,129,Kfj,Kah,Kls,Kak,Kht,Kaw,Kqq,Kae,140,Kkz,Kac,140,Kkz,Kle,Kew,Kks,Kgv,Kny,Kng,Kch,Kki,Kbu,Knh,Kak,Kmd,Kbu,Kml,Kcp,Kqe,Kdy,Kme,Kdi,Kme,Knq,Kni,Knw,Kky,Kna,Kkw,Kdy,Knd,Kph,Kkh,Kab,Kho,Kpw,Kes,Kro,Kpa,Kaf,Kdk,Kjg,159,Kah,Khn,159,Koy,Kfn,20371,Kah,Khn,159,Koy,Knb,147,Kpa,Kaf,Kei,Kjr,Kpa,Kaf,0x13060c14,Kpa,Kaf,154,Kab,Kfp,Kqf,Kah,Kpt,Kak,Kqf,Kah,Kpt,Kak,Kmw,Kqb,Kqf,Kah,Kpt,Kaf,Kgr,Krl,162,Kah,Kmv,0x28c022,Kop,0x9f007cf9d,Kqf,Kab,Kpt,159,Kaf,16543,Kho,20512,Kqf,Kah,Kpt,Kaf,Kgq,161,Klh,Kah,Kmv,0x28c022,Kop,Klh,Khk,Khk,Kah,Kpt,Kaf,161]) (fun f B T => vc (cGoIn R (cuA n (tP k0 "(") a)) [1, 2] (n_goIn w b R _ (dn (n := n) (by omega))) rfl fun x1 => vcE "punct" "punct" true (by rfl') fun x2 => vc (cInT 735 (Z "(") false) [] (n_inT w b 735 _ _ (by rfl')) rfl fun x3 => vcE "punct" "punct" true (by rfl') fun x4 => vc (cInT 733 (Z "(") false) [] (n_inT w b 733 _ _ (by rfl')) rfl fun x5 => vcE "punct" "keyword" false (by rfl') fun x6 => vc (cWord R (cuA (n + 1) (tP k0 "(") (a.pY x1.2.2)) (Z "new") false) [6, 7, 10, 11] (n_word0 w b R _ _ (by rfl')) rfl fun x7 => vcE "punct" "name" false (by rfl') fun x8 => vc (cInTs (x7.1 + 1) [.str (Z "number") (x8.2.1 + 1), .str (Z "text") (x8.2.1 + 2)] (Z "punct") false) [0] (n_inTs w b _ _ _ _ (by rfl') (by rfl')) rfl fun x9 => vcE "punct" "keyword" false (by rfl') fun x10 => vc (cEatY R (cuA (n + 1) (tP k0 "(") (a.pY x1.2.2)) (Z "(") (tN k1 "b")) [8, 9, 10, 11, 12, 13] (n_eatY w b R _ _ _ (n_sign1 w b R _ _ true (by rfl') (by rfl')) (h0 _ rfl rfl rfl)) rfl fun x11 => vc (cGoIn R (cuA (n + 1) (tN k1 "b") (aY x11.2.2))) [12, 13] (n_goIn w b R _ (dn (n := (n + 1)) (by omega))) rfl fun x12 => vc (cUnN R ((cuA (n + 1 + 1) k1 ((aY x11.2.2).pY x12.2.2)).as sN (Z "b")) (tK k2 "in")) [14, 15, 16, 17, 4, 5] (n_un0 w b R _ _ _ hw (h1 _ rfl rfl rfl) (by rfl')) rfl fun x13 => vc (cPrio R (cuA (n + 1 + 1) (tK k2 "in") (aY x13.2.2)) true 7) [19, 20, 0, 1] (n_prioI_true w b R _ (by rfl') (n_word_true w b R _ _ (by rfl') (by rfl'))) rfl fun x14 => vcG 7 1 true rfl fun x15 => vc (cPrio R (cuA (n + 1 + 1) (tK k2 "in") (aY x13.2.2)) true 7) [19, 20, 0, 1] (n_prioI_true w b R _ (by rfl') (n_word_true w b R _ _ (by rfl') (by rfl'))) rfl fun x16 => vc (cTake R (cuA (n + 1 + 1) (tK k2 "in") (aY x13.2.2)) (tN k3 "c")) [19, 20, 21, 22] (h2 _ rfl rfl rfl) rfl fun x17 => vc (cUnN R ((cuA (n + 1 + 1) k3 (aY x17.2.2)).as sN (Z "c")) (tP k4 ")")) [22, 23, 24, 25, 1, 2] (n_un1 w b R _ _ _ hw (h3 _ rfl rfl rfl) (by rfl') (by rfl') (by rfl') (by rfl') (by rfl')) rfl fun x18 => vc (cPrio R (cuA (n + 1 + 1) (tP k4 ")") (aY x18.2.2)) true 0) [27, 28, 0, 1] (n_prioP w b R _ _ 0 (by rfl') (by rfl')) rfl fun x19 => vcG 0 8 false rfl fun x20 => vc (cNode R.P (Z "Binary") k1.ln x19.1) [] (n_nodeP w b hw _ _ _) rfl fun x21 => vc (cPrio R (cuA (n + 1 + 1) (tP k4 ")") (aY x18.2.2)) true 0) [30, 31, 3, 4] (n_prioP w b R _ _ 0 (by rfl') (by rfl')) rfl fun x22 => vcG 0 1 false rfl fun x23 => vc (cEatN R (cuA (n + 1 + 1) (tP k4 ")") (aY x18.2.2)) (Z "?")) [30, 31, 3, 4] (n_eatN w b R _ _ (n_sign1 w b R _ _ false (by rfl') (by rfl'))) rfl fun x24 => vcE "punct" "punct" true (by rfl') fun x25 => vc (cInT 732 (Z ")") false) [] (n_inT w b 732 _ _ (by rfl')) rfl fun x26 => vc (cGoOut' R (cuA (n + 1 + 1) (tP k4 ")") (aY x18.2.2)) (n + 1)) [30, 31] (n_goOut' w b R _ _ (dm (n + 1))) rfl fun x27 => vc (cSign R (cuA (n + 1) (tP k4 ")") ((aY x18.2.2).pY x27.2.2)) (Z ",") false) [30, 31, 3, 4] (n_sign1 w b R _ _ false (by rfl') (by rfl')) rfl fun x28 => vc (cNeed R (cuA (n + 1) (tP k4 ")") ((aY x18.2.2).pY x27.2.2)) (Z ")") (tE k5)) [30, 31, 32, 33, 3, 4] (n_need w b R _ _ _ (n_eatY w b R _ _ _ (n_sign1 w b R _ _ true (by rfl') (by rfl')) (h4 _ rfl rfl rfl))) rfl fun x29 => vc (cSign R (cuA (n + 1) (tE k5) (aY x29.2.2)) (Z ".") false) [33, 34, 1, 2] (n_sign0 w b R _ _ (by rfl')) rfl fun x30 => vc (cSign R (cuA (n + 1) (tE k5) (aY x29.2.2)) (Z "[") false) [33, 34, 1, 2] (n_sign0 w b R _ _ (by rfl')) rfl fun x31 => vc (cSign R (cuA (n + 1) (tE k5) (aY x29.2.2)) (Z "(") false) [33, 34, 1, 2] (n_sign0 w b R _ _ (by rfl')) rfl fun x32 => vc (cStrNe (Z "end") (Z "punct") true) [] (n_str_ne w b _ _ _ (by rfl')) rfl fun x33 => vc (cPrio R (cuA (n + 1) (tE k5) (aY x29.2.2)) can 0) [33, 34, 1, 2] (n_prioO_false w b R _ _ (by rfl') (n_word0 w b R _ _ (by rfl')) (n_word0 w b R _ _ (by rfl'))) rfl fun x34 => vcG 0 1 false rfl fun x35 => vc (cEatN R (cuA (n + 1) (tE k5) (aY x29.2.2)) (Z "?")) [33, 34, 1, 2] (n_eatN w b R _ _ (n_sign0 w b R _ _ (by rfl'))) rfl fun x36 => vcE "end" "punct" false (by rfl') fun x37 => vc (cGoOut' R (cuA (n + 1) (tE k5) (aY x29.2.2)) n) [33, 34] (n_goOut' w b R _ _ (dm n)) rfl fun x38 => ve) fun f B T x1 x2 x3 x4 x5 x6 x7 x8 x9 x10 x11 x12 x13 x14 x15 x16 x17 x18 x19 x20 x21 x22 x23 x24 x25 x26 x27 x28 x29 x30 x31 x32 x33 x34 x35 x36 x37 x38 => ⟨(natAt (yH ((aY x29.2.2).pY x38.2.2) ((x21.2.2 0) :: (x21.2.2 1) :: x19.1 :: (rn x21.2.2 2 6 [0, 0, 0, B])))), ((x19.1, listO [.str (Z "in") (x13.2.2 14), .ref (x13.2.2 29), .ref (x18.2.2 29)]) :: (nmO R.P "b" k1.ln x13.2.2 (nmO R.P "c" k3.ln x18.2.2 []))), [], by cases b <;> rfl', f1 fun h' hs hf m => nT (m 2 rfl) (m 3 rfl) (m 4 rfl) (.cons (.str _ _) (.cons (nT (m 5 rfl) (m 6 rfl) (m 7 rfl) (.cons (.str _ _) .nil)) (.cons (nT (m 8 rfl) (m 9 rfl) (m 10 rfl) (.cons (.str _ _) .nil)) .nil)))⟩
theorem op4 (w b) (R : Rd) (n : Int) (a : Ca) (k0 k1 k2 k3 k4 k5 k6 : Tk) (can : Bool) (hw : R.P = w.params) (hn : n ≤ 20) (h0 : Nxt w b R (tN k0 "f") (tP k1 "(")) (h1 : Nxt w b R (tP k1 "(") (tN k2 "b")) (h2 : Nxt w b R (tN k2 "b") (tK k3 "in")) (h3 : Nxt w b R (tK k3 "in") (tN k4 "c")) (h4 : Nxt w b R (tN k4 "c") (tP k5 ")")) (h5 : Nxt w b R (tP k5 ")") (tE k6)) : Nd w b (cAsT R (cuA n (tN k0 "f") a) (tE k6) can (Z "Call") k0.ln (.node (Z "Call") [.node (Z "Name") [.str (Z "f")], .lst [.node (Z "Binary") [.str (Z "in"), .node (Z "Name") [.str (Z "b")], .node (Z "Name") [.str (Z "c")]]]]) 160 1300) := nf [46, 48] [4, 5, 1, 2, 3, 30, 31, 32, 25, 6, 7, 8, 19, 20, 21, 11, 12, 13] 2318 (Kk [Kjt,Kpm,Kon,Kaq,Kdh,Ken,Kis,Kkg,129,Kfj,Kah,Kls,Kak,Kht,Kaw,Kqq,Kae,140,Kkz,129,Kjy,Kkz,Klk,Klo,Kew,Kak,Kgv,Kaf,Kie,Kew,Kaf,Kgl,Kax,128,Kbk,Kaj,Knr,Knf,Khw,Kmr,Knc,Kkx,Kak,Kkx,Kak,Kpi,Kkx,Kpp,Knk,Kba,Kbr,Kcv,Knk,Kaw,Kfl,Kaf,Kbp,132,Kjd,Kny,Kaq,132,Kmk,Kch,Kkk,Kak,Kky,Kbu,Kkw,Kcp,Koe,Kdy,Kqk,Kdi,Kqk,Knq,Kpc,Knw,Kkh,Kab,Kho,Kna,Kjc,Kab,Kgq,Kdy,165,Kpq,Kpq,Kab,21285,Kph,Kjk,Kab,Kim,Kpw,Kes,Kro,Kkv,Kaf,Kdk,Kjg,168,Kah,Khm,0x2a4028,Kfn,21523,Kah,Khm,0x2a4028,Knb,147,Kkv,Kaf,16403,Kjr,Kjr,151,Kkv,Kaf,151,Kkv,Kaf,153,Kaa,Kao,Kfp,Kre,Klf,Kah,22446,Kak,Kre,Klf,Kah,22446,Kak,0x15001428,Kre,Klf,Kah,22446,Kaf,Kim,0x2b94a9,Kah,Kre,0x2bc02e,Kdn,Kaf,169,Krh,21888,Kre,Klf,Kab,0x2ad7ae,Kaf,0x562c58ac0ab,Kre,Klf,Kah,22446,Kaf,Krg,0x2b96ad,Kah,Kre,0x2bc02e,Kdn,Kaf,173,Kre,Klf,Kah,22446,Kaf,173]) (fun f B T => vc (cGoIn R (cuA n (tN k0 "f") a)) [1, 2] (n_goIn w b R _ (dn (n := n) (by omega))) rfl fun x1 => vcE "name" "punct" false (by rfl') fun x2 => vcE "name" "punct" false (by rfl') fun x3 => vcE "name" "keyword" false (by rfl') fun x4 => vc (cWord R (cuA (n + 1) (tN k0 "f") (a.pY x1.2.2)) (Z "new") false) [6, 7, 10, 11] (n_word0 w b R _ _ (by rfl')) rfl fun x5 => vcE "name" "name" true (by rfl') fun x6 => vc (cStrNe (Z "name") (Z "name") false) [] (n_str_ne w b _ _ _ (by rfl')) rfl fun x7 => vc (cTake R (cuA (n + 1) (tN k0 "f") (a.pY x1.2.2)) (tP k1 "(")) [10, 11, 12, 13] (h0 _ rfl rfl rfl) rfl fun x8 => vc (cNode R.P (Z "Name") k0.ln x8.1) [] (n_nodeP w b hw _ _ _) rfl fun x9 => vc (cSign R (cuA (n + 1) (tP k1 "(") (aY x8.2.2)) (Z ".") false) [16, 17, 4, 5] (n_sign1 w b R _ _ false (by rfl') (by rfl')) rfl fun x10 => vc (cSign R (cuA (n + 1) (tP k1 "(") (aY x8.2.2)) (Z "[") false) [16, 17, 4, 5] (n_sign1 w b R _ _ false (by rfl') (by rfl')) rfl fun x11 => vc (cSign R (cuA (n + 1) (tP k1 "(") (aY x8.2.2)) (Z "(") true) [16, 17, 4, 5] (n_sign1 w b R _ _ true (by rfl') (by rfl')) rfl fun x12 => vc (cNeed R (cuA (n + 1) (tP k1 "(") (aY x8.2.2)) (Z "(") (tN k2 "b")) [17, 18, 19, 20, 5, 6] (n_need w b R _ _ _ (n_eatY w b R _ _ _ (n_sign1 w b R _ _ true (by rfl') (by rfl')) (h1 _ rfl rfl rfl))) rfl fun x13 => vc (cSign R (cuA (n + 1) (tN k2 "b") (aY x13.2.2)) (Z ")") false) [20, 21, 1, 2] (n_sign0 w b R _ _ (by rfl')) rfl fun x14 => vc (cGoIn R (cuA (n + 1) (tN k2 "b") (aY x13.2.2))) [21, 22] (n_goIn w b R _ (dn (n := (n + 1)) (by omega))) rfl fun x15 => vc (cUnN R ((cuA (n + 1 + 1) k2 ((aY x13.2.2).pY x15.2.2)).as sN (Z "b")) (tK k3 "in")) [23, 24, 25, 26, 4, 5] (n_un0 w b R _ _ _ hw (h2 _ rfl rfl rfl) (by rfl')) rfl fun x16 => vc (cPrio R (cuA (n + 1 + 1) (tK k3 "in") (aY x16.2.2)) true 7) [28, 29, 0, 1] (n_prioI_true w b R _ (by rfl') (n_word_true w b R _ _ (by rfl') (by rfl'))) rfl fun x17 => vcG 7 1 true rfl fun x18 => vc (cPrio R (cuA (n + 1 + 1) (tK k3 "in") (aY x16.2.2)) true 7) [28, 29, 0, 1] (n_prioI_true w b R _ (by rfl') (n_word_true w b R _ _ (by rfl') (by rfl'))) rfl fun x19 => vc (cTake R (cuA (n + 1 + 1) (tK k3 "in") (aY x16.2.2)) (tN k4 "c")) [28, 29, 30, 31] (h3 _ rfl rfl rfl) rfl fun x20 => vc (cUnN R ((cuA (n + 1 + 1) k4 (aY x20.2.2)).as sN (Z "c")) (tP k5 ")")) [31, 32, 33, 34, 1, 2] (n_un1 w b R _ _ _ hw (h4 _ rfl rfl rfl) (by rfl') (by rfl') (by rfl') (by rfl') (by rfl')) rfl fun x21 => vc (cPrio R (cuA (n + 1 + 1) (tP k5 ")") (aY x21.2.2)) true 0) [36, 37, 0, 1] (n_prioP w b R _ _ 0 (by rfl') (by rfl')) rfl fun x22 => vcG 0 8 false rfl fun x23 => vc (cNode R.P (Z "Binary") k2.ln x22.1) [] (n_nodeP w b hw _ _ _) rfl fun x24 => vc (cPrio R (cuA (n + 1 + 1) (tP k5 ")") (aY x21.2.2)) true 0) [39, 40, 3, 4] (n_prioP w b R _ _ 0 (by rfl') (by rfl')) rfl fun x25 => vcG 0 1 false rfl fun x26 => vc (cEatN R (cuA (n + 1 + 1) (tP k5 ")") (aY x21.2.2)) (Z "?")) [39, 40, 3, 4] (n_eatN w b R _ _ (n_sign1 w b R _ _ false (by rfl') (by rfl'))) rfl fun x27 => vcE "punct" "punct" true (by rfl') fun x28 => vc (cInT 732 (Z ")") false) [] (n_inT w b 732 _ _ (by rfl')) rfl fun x29 => vc (cGoOut' R (cuA (n + 1 + 1) (tP k5 ")") (aY x21.2.2)) (n + 1)) [39, 40] (n_goOut' w b R _ _ (dm (n + 1))) rfl fun x30 => vc (cEatN R (cuA (n + 1) (tP k5 ")") ((aY x21.2.2).pY x30.2.2)) (Z ",")) [39, 40, 3, 4] (n_eatN w b R _ _ (n_sign1 w b R _ _ false (by rfl') (by rfl'))) rfl fun x31 => vc (cNeed R (cuA (n + 1) (tP k5 ")") ((aY x21.2.2).pY x30.2.2)) (Z ")") (tE k6)) [39, 40, 41, 42, 3, 4] (n_need w b R _ _ _ (n_eatY w b R _ _ _ (n_sign1 w b R _ _ true (by rfl') (by rfl')) (h5 _ rfl rfl rfl))) rfl fun x32 => vc (cNode R.P (Z "Call") k0.ln x32.1) [] (n_nodeP w b hw _ _ _) rfl fun x33 => vc (cSign R (cuA (n + 1) (tE k6) (aY x32.2.2)) (Z ".") false) [45, 46, 4, 5] (n_sign0 w b R _ _ (by rfl')) rfl fun x34 => vc (cSign R (cuA (n + 1) (tE k6) (aY x32.2.2)) (Z "[") false) [45, 46, 4, 5] (n_sign0 w b R _ _ (by rfl')) rfl fun x35 => vc (cSign R (cuA (n + 1) (tE k6) (aY x32.2.2)) (Z "(") false) [45, 46, 4, 5] (n_sign0 w b R _ _ (by rfl')) rfl fun x36 => vc (cStrNe (Z "end") (Z "punct") true) [] (n_str_ne w b _ _ _ (by rfl')) rfl fun x37 => vc (cPrio R (cuA (n + 1) (tE k6) (aY x32.2.2)) can 0) [45, 46, 4, 5] (n_prioO_false w b R _ _ (by rfl') (n_word0 w b R _ _ (by rfl')) (n_word0 w b R _ _ (by rfl'))) rfl fun x38 => vcG 0 1 false rfl fun x39 => vc (cEatN R (cuA (n + 1) (tE k6) (aY x32.2.2)) (Z "?")) [45, 46, 4, 5] (n_eatN w b R _ _ (n_sign0 w b R _ _ (by rfl'))) rfl fun x40 => vcE "end" "punct" false (by rfl') fun x41 => vc (cGoOut' R (cuA (n + 1) (tE k6) (aY x32.2.2)) n) [45, 46] (n_goOut' w b R _ _ (dm n)) rfl fun x42 => ve) fun f B T x1 x2 x3 x4 x5 x6 x7 x8 x9 x10 x11 x12 x13 x14 x15 x16 x17 x18 x19 x20 x21 x22 x23 x24 x25 x26 x27 x28 x29 x30 x31 x32 x33 x34 x35 x36 x37 x38 x39 x40 x41 x42 => ⟨(natAt (yH ((aY x32.2.2).pY x42.2.2) ((x33.2.2 0) :: (x33.2.2 1) :: x32.1 :: (rn x33.2.2 2 6 [0, 0, 0, B])))), ((x32.1, listO [.ref (x9.2.2 0), .ref x13.1]) :: ((x9.2.2 0), inst 38 (x9.2.2 1)) :: ((x9.2.2 1), nodeO R.P (Z "Name") k0.ln x8.1 (natAt (rn x9.2.2 2 4 [])) (natAt [(x9.2.2 6), (x9.2.2 7), 0, 0])) :: (x8.1, listO [.str (Z "f") (a.tv 1)]) :: (x13.1, listN [.ref (x24.2.2 0)] 1) :: ((x24.2.2 0), inst 38 (x24.2.2 1)) :: ((x24.2.2 1), nodeO R.P (Z "Binary") k2.ln x22.1 (natAt (rn x24.2.2 2 4 [])) (natAt [(x24.2.2 6), (x24.2.2 7), 0, 0])) :: (x22.1, listO [.str (Z "in") (x16.2.2 14), .ref (x16.2.2 29), .ref (x21.2.2 29)]) :: (nmO R.P "b" k2.ln x16.2.2 (nmO R.P "c" k4.ln x21.2.2 []))), [], by cases b <;> rfl', f1 fun h' hs hf m => nT (m 2 rfl) (m 3 rfl) (m 4 rfl) (.cons (nT (m 5 rfl) (m 6 rfl) (m 7 rfl) (.cons (.str _ _) .nil)) (.cons (lT (m 8 rfl) (.cons (nT (m 9 rfl) (m 10 rfl) (m 11 rfl) (.cons (.str _ _) (.cons (nT (m 12 rfl) (m 13 rfl) (m 14 rfl) (.cons (.str _ _) .nil)) (.cons (nT (m 15 rfl) (m 16 rfl) (m 17 rfl) (.cons (.str _ _) .nil)) .nil)))) .nil)) .nil))⟩
theorem op5 (w b) (R : Rd) (n : Int) (a : Ca) (k0 k1 k2 k3 k4 k5 k6 k7 : Tk) (can : Bool) (hw : R.P = w.params) (hn : n ≤ 20) (h0 : Nxt w b R (tN k0 "b") (tP k1 "?")) (h1 : Nxt w b R (tP k1 "?") (tN k2 "c")) (h2 : Nxt w b R (tN k2 "c") (tK k3 "in")) (h3 : Nxt w b R (tK k3 "in") (tN k4 "d")) (h4 : Nxt w b R (tN k4 "d") (tP k5 ":")) (h5 : Nxt w b R (tP k5 ":") (tN k6 "e")) (h6 : Nxt w b R (tN k6 "e") (tE k7)) : Nd w b (cAsT R (cuA n (tN k0 "b") a) (tE k7) can (Z "Cond") k0.ln (.node (Z "Cond") [.node (Z "Name") [.str (Z "b")], .node (Z "Binary") [.str (Z "in"), .node (Z "Name") [.str (Z "c")], .node (Z "Name") [.str (Z "d")]], .node (Z "Name") [.str (Z "e")]]) 160 1300) := nf [43, 45] [3, 4, 0, 1, 2, 36, 37, 38, 13, 14, 15, 26, 27, 28, 18, 19, 20, 5, 6, 7] 1525 (Kk [Kpb,Kgm,Kgv,Kjz,Kng,Kch,Knl,Kak,Kki,Kbu,Kmd,Kcp,Kml,Kdy,Kmj,Kdi,Kmj,Knq,Kjm,Knw,Kmk,Kna,Kky,Kdy,Kpu,Kjq,Kab,Krm,Kph,Kgb,Kab,Kev,Kpw,Kes,Kro,Kir,Kaf,Kdk,Kjg,158,Kah,Keu,Krk,159,Kfn,20243,Kah,Keu,Krk,159,Knb,147,Kir,Kaf,147,Kmw,156,Kir,Kaf,0x268f00,Kab,154,Kag,154,Kqd,0x278f1e,Kjc,Kab,Kgq,158,Kch,Koh,Kah,Klh,Kak,Koh,Kab,Klh,Kbu,Kqf,Kab,Kpt,Kcp,Kqg,Kab,Krj,Kdy,Kjk,Kab,Kim,Kgm,Kkv,Kje,168,Kah,Khm,0x2a4028,Kiz,Kkv,Kda,Kbn,0x156a952a,Kah,171,Kad,Krh,22016,Kfn,21930,Kad,171,Kad,171,Kah,22059,Kaf,170]) (fun f B T => vc (cGoIn R (cuA n (tN k0 "b") a)) [1, 2] (n_goIn w b R _ (dn (n := n) (by omega))) rfl fun x1 => vc (cUnN R ((cuA (n + 1) k0 (a.pY x1.2.2)).as sN (Z "b")) (tP k1 "?")) [3, 4, 5, 6, 7, 8] (n_un1 w b R _ _ _ hw (h0 _ rfl rfl rfl) (by rfl') (by rfl') (by rfl') (by rfl') (by rfl')) rfl fun x2 => vc (cPrio R (cuA (n + 1) (tP k1 "?") (aY x2.2.2)) can 0) [8, 9, 0, 1] (n_prioP w b R _ _ 0 (by rfl') (by rfl')) rfl fun x3 => vcG 0 1 false rfl fun x4 => vc (cEatY R (cuA (n + 1) (tP k1 "?") (aY x2.2.2)) (Z "?") (tN k2 "c")) [8, 9, 10, 11, 0, 1] (n_eatY w b R _ _ _ (n_sign1 w b R _ _ true (by rfl') (by rfl')) (h1 _ rfl rfl rfl)) rfl fun x5 => vc (cGoIn R (cuA (n + 1) (tN k2 "c") (aY x5.2.2))) [11, 12] (n_goIn w b R _ (dn (n := (n + 1)) (by omega))) rfl fun x6 => vc (cUnN R ((cuA (n + 1 + 1) k2 ((aY x5.2.2).pY x6.2.2)).as sN (Z "c")) (tK k3 "in")) [13, 14, 15, 16, 3, 4] (n_un0 w b R _ _ _ hw (h2 _ rfl rfl rfl) (by rfl')) rfl fun x7 => vc (cPrio R (cuA (n + 1 + 1) (tK k3 "in") (aY x7.2.2)) true 7) [18, 19, 0, 1] (n_prioI_true w b R _ (by rfl') (n_word_true w b R _ _ (by rfl') (by rfl'))) rfl fun x8 => vcG 7 1 true rfl fun x9 => vc (cPrio R (cuA (n + 1 + 1) (tK k3 "in") (aY x7.2.2)) true 7) [18, 19, 0, 1] (n_prioI_true w b R _ (by rfl') (n_word_true w b R _ _ (by rfl') (by rfl'))) rfl fun x10 => vc (cTake R (cuA (n + 1 + 1) (tK k3 "in") (aY x7.2.2)) (tN k4 "d")) [18, 19, 20, 21] (h3 _ rfl rfl rfl) rfl fun x11 => vc (cUnN R ((cuA (n + 1 + 1) k4 (aY x11.2.2)).as sN (Z "d")) (tP k5 ":")) [21, 22, 23, 24, 1, 2] (n_un1 w b R _ _ _ hw (h4 _ rfl rfl rfl) (by rfl') (by rfl') (by rfl') (by rfl') (by rfl')) rfl fun x12 => vc (cPrio R (cuA (n + 1 + 1) (tP k5 ":") (aY x12.2.2)) true 0) [26, 27, 0, 1] (n_prioP w b R _ _ 0 (by rfl') (by rfl')) rfl fun x13 => vcG 0 8 false rfl fun x14 => vc (cNode R.P (Z "Binary") k2.ln x13.1) [] (n_nodeP w b hw _ _ _) rfl fun x15 => vc (cPrio R (cuA (n + 1 + 1) (tP k5 ":") (aY x12.2.2)) true 0) [29, 30, 3, 4] (n_prioP w b R _ _ 0 (by rfl') (by rfl')) rfl fun x16 => vcG 0 1 false rfl fun x17 => vc (cEatN R (cuA (n + 1 + 1) (tP k5 ":") (aY x12.2.2)) (Z "?")) [29, 30, 3, 4] (n_eatN w b R _ _ (n_sign1 w b R _ _ false (by rfl') (by rfl'))) rfl fun x18 => vcE "punct" "punct" true (by rfl') fun x19 => vc (cInT 732 (Z ":") false) [] (n_inT w b 732 _ _ (by rfl')) rfl fun x20 => vc (cGoOut' R (cuA (n + 1 + 1) (tP k5 ":") (aY x12.2.2)) (n + 1)) [29, 30] (n_goOut' w b R _ _ (dm (n + 1))) rfl fun x21 => vc (cNeed R (cuA (n + 1) (tP k5 ":") ((aY x12.2.2).pY x21.2.2)) (Z ":") (tN k6 "e")) [29, 30, 31, 32, 3, 4] (n_need w b R _ _ _ (n_eatY w b R _ _ _ (n_sign1 w b R _ _ true (by rfl') (by rfl')) (h5 _ rfl rfl rfl))) rfl fun x22 => vc (cGoIn R (cuA (n + 1) (tN k6 "e") (aY x22.2.2))) [32, 33] (n_goIn w b R _ (dn (n := (n + 1)) (by omega))) rfl fun x23 => vc (cUnN R ((cuA (n + 1 + 1) k6 ((aY x22.2.2).pY x23.2.2)).as sN (Z "e")) (tE k7)) [34, 35, 36, 37, 3, 4] (n_un0 w b R _ _ _ hw (h6 _ rfl rfl rfl) (by rfl')) rfl fun x24 => vc (cPrio R (cuA (n + 1 + 1) (tE k7) (aY x24.2.2)) can 0) [39, 40, 0, 1] (n_prioO_false w b R _ _ (by rfl') (n_word0 w b R _ _ (by rfl')) (n_word0 w b R _ _ (by rfl'))) rfl fun x25 => vcG 0 1 false rfl fun x26 => vc (cEatN R (cuA (n + 1 + 1) (tE k7) (aY x24.2.2)) (Z "?")) [39, 40, 0, 1] (n_eatN w b R _ _ (n_sign0 w b R _ _ (by rfl'))) rfl fun x27 => vcE "end" "punct" false (by rfl') fun x28 => vc (cGoOut' R (cuA (n + 1 + 1) (tE k7) (aY x24.2.2)) (n + 1)) [39, 40] (n_goOut' w b R _ _ (dm (n + 1))) rfl fun x29 => vc (cNode R.P (Z "Cond") k0.ln x29.1) [] (n_nodeP w b hw _ _ _) rfl fun x30 => vcE "end" "punct" false (by rfl') fun x31 => vc (cGoOut' R (cuA (n + 1) (tE k7) ((aY x24.2.2).pY x29.2.2)) n) [42, 43] (n_goOut' w b R _ _ (dm n)) rfl fun x32 => ve) fun f B T x1 x2 x3 x4 x5 x6 x7 x8 x9 x10 x11 x12 x13 x14 x15 x16 x17 x18 x19 x20 x21 x22 x23 x24 x25 x26 x27 x28 x29 x30 x31 x32 => ⟨(natAt (yH (((aY x24.2.2).pY x29.2.2).pY x32.2.2) ((x30.2.2 0) :: (x30.2.2 1) :: x29.1 :: (rn x30.2.2 2 6 [0, 0, 0, B])))), ((x29.1, listO [.ref (x2.2.2 29), .ref (x15.2.2 0), .ref (x24.2.2 29)]) :: (nmO R.P "b" k0.ln x2.2.2 (((x15.2.2 0), inst 38 (x15.2.2 1)) :: ((x15.2.2 1), nodeO R.P (Z "Binary") k2.ln x13.1 (natAt (rn x15.2.2 2 4 [])) (natAt [(x15.2.2 6), (x15.2.2 7), 0, 0])) :: (x13.1, listO [.str (Z "in") (x7.2.2 14), .ref (x7.2.2 29), .ref (x12.2.2 29)]) :: (nmO R.P "c" k2.ln x7.2.2 (nmO R.P "d" k4.ln x12.2.2 (nmO R.P "e" k6.ln x24.2.2 [])))))), [], by cases b <;> rfl', f1 fun h' hs hf m => nT (m 2 rfl) (m 3 rfl) (m 4 rfl) (.cons (nT (m 5 rfl) (m 6 rfl) (m 7 rfl) (.cons (.str _ _) .nil)) (.cons (nT (m 8 rfl) (m 9 rfl) (m 10 rfl) (.cons (.str _ _) (.cons (nT (m 11 rfl) (m 12 rfl) (m 13 rfl) (.cons (.str _ _) .nil)) (.cons (nT (m 14 rfl) (m 15 rfl) (m 16 rfl) (.cons (.str _ _) .nil)) .nil)))) (.cons (nT (m 17 rfl) (m 18 rfl) (m 19 rfl) (.cons (.str _ _) .nil)) .nil)))⟩
theorem op6t (w b) (R : Rd) (n : Int) (a : Ca) (k0 k1 k2 k3 k4 k5 k6 k7 : Tk) (hw : R.P = w.params) (hn : n ≤ 20) (h0 : Nxt w b R (tN k0 "b") (tP k1 "?")) (h1 : Nxt w b R (tP k1 "?") (tN k2 "c")) (h2 : Nxt w b R (tN k2 "c") (tP k3 ":")) (h3 : Nxt w b R (tP k3 ":") (tN k4 "d")) (h4 : Nxt w b R (tN k4 "d") (tK k5 "in")) (h5 : Nxt w b R (tK k5 "in") (tN k6 "e")) (h6 : Nxt w b R (tN k6 "e") (tE k7)) : Nd w b (cAsT R (cuA n (tN k0 "b") a) (tE k7) true (Z "Cond") k0.ln (.node (Z "Cond") [.node (Z "Name") [.str (Z "b")], .node (Z "Name") [.str (Z "c")], .node (Z "Binary") [.str (Z "in"), .node (Z "Name") [.str (Z "d")], .node (Z "Name") [.str (Z "e")]]]) 160 1300) := nf [43, 45] [6, 7, 0, 1, 2, 36, 37, 38, 26, 27, 28, 3, 4, 5, 16, 17, 18, 8, 9, 10] 1525 (Kk [Kpb,Kgm,Kgv,Kjz,Kng,Kch,Knl,Kak,Kki,Kbu,Kmd,Kcp,Kml,Kdy,Kmj,Kgm,Kjm,Kje,Kpv,Kiz,Kpv,Klw,Kjm,Kda,Kpg,Kjm,Kaf,Kff,Kql,Kjg,147,Kmk,147,Kch,Kkk,Kak,Kky,Kbu,Kkw,Kcp,Koe,Kdy,Kqk,Kdi,Kqk,Knq,Kpc,Knw,Kkh,Kab,Kho,Kna,Kjc,Kab,Kgq,Kdy,165,Kpq,Kpq,Kab,21285,Kph,Kjk,Kab,Kim,Kpw,Kes,Kro,Kkv,Kaf,Kdk,Kjg,168,Kah,Khm,0x2a4028,Kfn,147,Kkv,Kaf,147,Kbn,0x156a952a,Kah,171,Kad,Krh,0x21d600,Klv,Kaf,21930,Kad,171,Kad,171,Kah,22059,Kaf,170]) (fun f B T => vc (cGoIn R (cuA n (tN k0 "b") a)) [1, 2] (n_goIn w b R _ (dn (n := n) (by omega))) rfl fun x1 => vc (cUnN R ((cuA (n + 1) k0 (a.pY x1.2.2)).as sN (Z "b")) (tP k1 "?")) [3, 4, 5, 6, 7, 8] (n_un1 w b R _ _ _ hw (h0 _ rfl rfl rfl) (by rfl') (by rfl') (by rfl') (by rfl') (by rfl')) rfl fun x2 => vc (cPrio R (cuA (n + 1) (tP k1 "?") (aY x2.2.2)) true 0) [8, 9, 0, 1] (n_prioP w b R _ _ 0 (by rfl') (by rfl')) rfl fun x3 => vcG 0 1 false rfl fun x4 => vc (cEatY R (cuA (n + 1) (tP k1 "?") (aY x2.2.2)) (Z "?") (tN k2 "c")) [8, 9, 10, 11, 0, 1] (n_eatY w b R _ _ _ (n_sign1 w b R _ _ true (by rfl') (by rfl')) (h1 _ rfl rfl rfl)) rfl fun x5 => vc (cGoIn R (cuA (n + 1) (tN k2 "c") (aY x5.2.2))) [11, 12] (n_goIn w b R _ (dn (n := (n + 1)) (by omega))) rfl fun x6 => vc (cUnN R ((cuA (n + 1 + 1) k2 ((aY x5.2.2).pY x6.2.2)).as sN (Z "c")) (tP k3 ":")) [13, 14, 15, 16, 3, 4] (n_un1 w b R _ _ _ hw (h2 _ rfl rfl rfl) (by rfl') (by rfl') (by rfl') (by rfl') (by rfl')) rfl fun x7 => vc (cPrio R (cuA (n + 1 + 1) (tP k3 ":") (aY x7.2.2)) true 0) [18, 19, 0, 1] (n_prioP w b R _ _ 0 (by rfl') (by rfl')) rfl fun x8 => vcG 0 1 false rfl fun x9 => vc (cEatN R (cuA (n + 1 + 1) (tP k3 ":") (aY x7.2.2)) (Z "?")) [18, 19, 0, 1] (n_eatN w b R _ _ (n_sign1 w b R _ _ false (by rfl') (by rfl'))) rfl fun x10 => vcE "punct" "punct" true (by rfl') fun x11 => vc (cInT 732 (Z ":") false) [] (n_inT w b 732 _ _ (by rfl')) rfl fun x12 => vc (cGoOut' R (cuA (n + 1 + 1) (tP k3 ":") (aY x7.2.2)) (n + 1)) [18, 19] (n_goOut' w b R _ _ (dm (n + 1))) rfl fun x13 => vc (cNeed R (cuA (n + 1) (tP k3 ":") ((aY x7.2.2).pY x13.2.2)) (Z ":") (tN k4 "d")) [18, 19, 20, 21, 0, 1] (n_need w b R _ _ _ (n_eatY w b R _ _ _ (n_sign1 w b R _ _ true (by rfl') (by rfl')) (h3 _ rfl rfl rfl))) rfl fun x14 => vc (cGoIn R (cuA (n + 1) (tN k4 "d") (aY x14.2.2))) [21, 22] (n_goIn w b R _ (dn (n := (n + 1)) (by omega))) rfl fun x15 => vc (cUnN R ((cuA (n + 1 + 1) k4 ((aY x14.2.2).pY x15.2.2)).as sN (Z "d")) (tK k5 "in")) [23, 24, 25, 26, 3, 4] (n_un0 w b R _ _ _ hw (h4 _ rfl rfl rfl) (by rfl')) rfl fun x16 => vc (cPrio R (cuA (n + 1 + 1) (tK k5 "in") (aY x16.2.2)) true 7) [28, 29, 0, 1] (n_prioI_true w b R _ (by rfl') (n_word_true w b R _ _ (by rfl') (by rfl'))) rfl fun x17 => vcG 7 1 true rfl fun x18 => vc (cPrio R (cuA (n + 1 + 1) (tK k5 "in") (aY x16.2.2)) true 7) [28, 29, 0, 1] (n_prioI_true w b R _ (by rfl') (n_word_true w b R _ _ (by rfl') (by rfl'))) rfl fun x19 => vc (cTake R (cuA (n + 1 + 1) (tK k5 "in") (aY x16.2.2)) (tN k6 "e")) [28, 29, 30, 31] (h5 _ rfl rfl rfl) rfl fun x20 => vc (cUnN R ((cuA (n + 1 + 1) k6 (aY x20.2.2)).as sN (Z "e")) (tE k7)) [31, 32, 33, 34, 1, 2] (n_un0 w b R _ _ _ hw (h6 _ rfl rfl rfl) (by rfl')) rfl fun x21 => vc (cPrio R (cuA (n + 1 + 1) (tE k7) (aY x21.2.2)) true 0) [36, 37, 0, 1] (n_prioO_false w b R _ _ (by rfl') (n_word0 w b R _ _ (by rfl')) (n_word0 w b R _ _ (by rfl'))) rfl fun x22 => vcG 0 8 false rfl fun x23 => vc (cNode R.P (Z "Binary") k4.ln x22.1) [] (n_nodeP w b hw _ _ _) rfl fun x24 => vc (cPrio R (cuA (n + 1 + 1) (tE k7) (aY x21.2.2)) true 0) [39, 40, 3, 4] (n_prioO_false w b R _ _ (by rfl') (n_word0 w b R _ _ (by rfl')) (n_word0 w b R _ _ (by rfl'))) rfl fun x25 => vcG 0 1 false rfl fun x26 => vc (cEatN R (cuA (n + 1 + 1) (tE k7) (aY x21.2.2)) (Z "?")) [39, 40, 3, 4] (n_eatN w b R _ _ (n_sign0 w b R _ _ (by rfl'))) rfl fun x27 => vcE "end" "punct" false (by rfl') fun x28 => vc (cGoOut' R (cuA (n + 1 + 1) (tE k7) (aY x21.2.2)) (n + 1)) [39, 40] (n_goOut' w b R _ _ (dm (n + 1))) rfl fun x29 => vc (cNode R.P (Z "Cond") k0.ln x29.1) [] (n_nodeP w b hw _ _ _) rfl fun x30 => vcE "end" "punct" false (by rfl') fun x31 => vc (cGoOut' R (cuA (n + 1) (tE k7) ((aY x21.2.2).pY x29.2.2)) n) [42, 43] (n_goOut' w b R _ _ (dm n)) rfl fun x32 => ve) fun f B T x1 x2 x3 x4 x5 x6 x7 x8 x9 x10 x11 x12 x13 x14 x15 x16 x17 x18 x19 x20 x21 x22 x23 x24 x25 x26 x27 x28 x29 x30 x31 x32 => ⟨(natAt (yH (((aY x21.2.2).pY x29.2.2).pY x32.2.2) ((x30.2.2 0) :: (x30.2.2 1) :: x29.1 :: (rn x30.2.2 2 6 [0, 0, 0, B])))), ((x29.1, listO [.ref (x2.2.2 29), .ref (x7.2.2 29), .ref (x24.2.2 0)]) :: (nmO R.P "b" k0.ln x2.2.2 (nmO R.P "c" k2.ln x7.2.2 (((x24.2.2 0), inst 38 (x24.2.2 1)) :: ((x24.2.2 1), nodeO R.P (Z "Binary") k4.ln x22.1 (natAt (rn x24.2.2 2 4 [])) (natAt [(x24.2.2 6), (x24.2.2 7), 0, 0])) :: (x22.1, listO [.str (Z "in") (x16.2.2 14), .ref (x16.2.2 29), .ref (x21.2.2 29)]) :: (nmO R.P "d" k4.ln x16.2.2 (nmO R.P "e" k6.ln x21.2.2 [])))))), [], by cases b <;> rfl', f1 fun h' hs hf m => nT (m 2 rfl) (m 3 rfl) (m 4 rfl) (.cons (nT (m 5 rfl) (m 6 rfl) (m 7 rfl) (.cons (.str _ _) .nil)) (.cons (nT (m 8 rfl) (m 9 rfl) (m 10 rfl) (.cons (.str _ _) .nil)) (.cons (nT (m 11 rfl) (m 12 rfl) (m 13 rfl) (.cons (.str _ _) (.cons (nT (m 14 rfl) (m 15 rfl) (m 16 rfl) (.cons (.str _ _) .nil)) (.cons (nT (m 17 rfl) (m 18 rfl) (m 19 rfl) (.cons (.str _ _) .nil)) .nil)))) .nil)))⟩
theorem op6f (w b) (R : Rd) (n : Int) (a : Ca) (k0 k1 k2 k3 k4 k5 : Tk) (hw : R.P = w.params) (hn : n ≤ 20) (h0 : Nxt w b R (tN k0 "b") (tP k1 "?")) (h1 : Nxt w b R (tP k1 "?") (tN k2 "c")) (h2 : Nxt w b R (tN k2 "c") (tP k3 ":")) (h3 : Nxt w b R (tP k3 ":") (tN k4 "d")) (h4 : Nxt w b R (tN k4 "d") (tK k5 "in")) : Nd w b (cAsT R (cuA n (tN k0 "b") a) (tK k5 "in") false (Z "Cond") k0.ln (.node (Z "Cond") [.node (Z "Name") [.str (Z "b")], .node (Z "Name") [.str (Z "c")], .node (Z "Name") [.str (Z "d")]]) 160 1300) := nf [32, 34] [3, 4, 0, 1, 2, 25, 26, 27, 15, 16, 17, 5, 6, 7] 1207 (Kk [Kpb,Kgm,Kgv,Kjz,Kng,Kch,Knl,Kak,Kki,Kbu,Kmd,Kcp,Kml,Kdy,Kmj,Kgm,Kjm,Kje,Kpv,Kiz,Kpv,Klw,Kjm,Kda,Kpg,Kjm,Kaf,Kff,Kql,Kjg,147,Kmk,147,Kch,Kkk,Kak,Kky,Kbu,Kkw,Kcp,Koe,Kdy,Kqk,Kgm,Kpc,Kje,157,Kah,Khy,0x27801d,Kiz,Kpc,Kda,Kbn,20383,Kho,Kah,Kgp,0x284020,Kfn,159,Klm,Kaf,159]) (fun f B T => vc (cGoIn R (cuA n (tN k0 "b") a)) [1, 2] (n_goIn w b R _ (dn (n := n) (by omega))) rfl fun x1 => vc (cUnN R ((cuA (n + 1) k0 (a.pY x1.2.2)).as sN (Z "b")) (tP k1 "?")) [3, 4, 5, 6, 7, 8] (n_un1 w b R _ _ _ hw (h0 _ rfl rfl rfl) (by rfl') (by rfl') (by rfl') (by rfl') (by rfl')) rfl fun x2 => vc (cPrio R (cuA (n + 1) (tP k1 "?") (aY x2.2.2)) false 0) [8, 9, 0, 1] (n_prioP w b R _ _ 0 (by rfl') (by rfl')) rfl fun x3 => vcG 0 1 false rfl fun x4 => vc (cEatY R (cuA (n + 1) (tP k1 "?") (aY x2.2.2)) (Z "?") (tN k2 "c")) [8, 9, 10, 11, 0, 1] (n_eatY w b R _ _ _ (n_sign1 w b R _ _ true (by rfl') (by rfl')) (h1 _ rfl rfl rfl)) rfl fun x5 => vc (cGoIn R (cuA (n + 1) (tN k2 "c") (aY x5.2.2))) [11, 12] (n_goIn w b R _ (dn (n := (n + 1)) (by omega))) rfl fun x6 => vc (cUnN R ((cuA (n + 1 + 1) k2 ((aY x5.2.2).pY x6.2.2)).as sN (Z "c")) (tP k3 ":")) [13, 14, 15, 16, 3, 4] (n_un1 w b R _ _ _ hw (h2 _ rfl rfl rfl) (by rfl') (by rfl') (by rfl') (by rfl') (by rfl')) rfl fun x7 => vc (cPrio R (cuA (n + 1 + 1) (tP k3 ":") (aY x7.2.2)) true 0) [18, 19, 0, 1] (n_prioP w b R _ _ 0 (by rfl') (by rfl')) rfl fun x8 => vcG 0 1 false rfl fun x9 => vc (cEatN R (cuA (n + 1 + 1) (tP k3 ":") (aY x7.2.2)) (Z "?")) [18, 19, 0, 1] (n_eatN w b R _ _ (n_sign1 w b R _ _ false (by rfl') (by rfl'))) rfl fun x10 => vcE "punct" "punct" true (by rfl') fun x11 => vc (cInT 732 (Z ":") false) [] (n_inT w b 732 _ _ (by rfl')) rfl fun x12 => vc (cGoOut' R (cuA (n + 1 + 1) (tP k3 ":") (aY x7.2.2)) (n + 1)) [18, 19] (n_goOut' w b R _ _ (dm (n + 1))) rfl fun x13 => vc (cNeed R (cuA (n + 1) (tP k3 ":") ((aY x7.2.2).pY x13.2.2)) (Z ":") (tN k4 "d")) [18, 19, 20, 21, 0, 1] (n_need w b R _ _ _ (n_eatY w b R _ _ _ (n_sign1 w b R _ _ true (by rfl') (by rfl')) (h3 _ rfl rfl rfl))) rfl fun x14 => vc (cGoIn R (cuA (n + 1) (tN k4 "d") (aY x14.2.2))) [21, 22] (n_goIn w b R _ (dn (n := (n + 1)) (by omega))) rfl fun x15 => vc (cUnN R ((cuA (n + 1 + 1) k4 ((aY x14.2.2).pY x15.2.2)).as sN (Z "d")) (tK k5 "in")) [23, 24, 25, 26, 3, 4] (n_un0 w b R _ _ _ hw (h4 _ rfl rfl rfl) (by rfl')) rfl fun x16 => vc (cPrio R (cuA (n + 1 + 1) (tK k5 "in") (aY x16.2.2)) false 0) [28, 29, 0, 1] (n_prioI_false w b R _ (by rfl') (n_word_true w b R _ _ (by rfl') (by rfl'))) rfl fun x17 => vcG 0 1 false rfl fun x18 => vc (cEatN R (cuA (n + 1 + 1) (tK k5 "in") (aY x16.2.2)) (Z "?")) [28, 29, 0, 1] (n_eatN w b R _ _ (n_sign0 w b R _ _ (by rfl'))) rfl fun x19 => vcE "keyword" "punct" false (by rfl') fun x20 => vc (cGoOut' R (cuA (n + 1 + 1) (tK k5 "in") (aY x16.2.2)) (n + 1)) [28, 29] (n_goOut' w b R _ _ (dm (n + 1))) rfl fun x21 => vc (cNode R.P (Z "Cond") k0.ln x21.1) [] (n_nodeP w b hw _ _ _) rfl fun x22 => vcE "keyword" "punct" false (by rfl') fun x23 => vc (cGoOut' R (cuA (n + 1) (tK k5 "in") ((aY x16.2.2).pY x21.2.2)) n) [31, 32] (n_goOut' w b R _ _ (dm n)) rfl fun x24 => ve) fun f B T x1 x2 x3 x4 x5 x6 x7 x8 x9 x10 x11 x12 x13 x14 x15 x16 x17 x18 x19 x20 x21 x22 x23 x24 => ⟨(natAt (yH (((aY x16.2.2).pY x21.2.2).pY x24.2.2) ((x22.2.2 0) :: (x22.2.2 1) :: x21.1 :: (rn x22.2.2 2 6 [0, 0, 0, B])))), ((x21.1, listO [.ref (x2.2.2 29), .ref (x7.2.2 29), .ref (x16.2.2 29)]) :: (nmO R.P "b" k0.ln x2.2.2 (nmO R.P "c" k2.ln x7.2.2 (nmO R.P "d" k4.ln x16.2.2 [])))), [], by cases b <;> rfl', f1 fun h' hs hf m => nT (m 2 rfl) (m 3 rfl) (m 4 rfl) (.cons (nT (m 5 rfl) (m 6 rfl) (m 7 rfl) (.cons (.str _ _) .nil)) (.cons (nT (m 8 rfl) (m 9 rfl) (m 10 rfl) (.cons (.str _ _) .nil)) (.cons (nT (m 11 rfl) (m 12 rfl) (m 13 rfl) (.cons (.str _ _) .nil)) .nil)))⟩
theorem op7 (w b) (R : Rd) (n : Int) (a : Ca) (k0 k1 k2 k3 k4 k5 k6 : Tk) (can : Bool) (hw : R.P = w.params) (hn : n ≤ 20) (h0 : Nxt w b R (tN k0 "a") (tP k1 "[")) (h1 : Nxt w b R (tP k1 "[") (tN k2 "b")) (h2 : Nxt w b R (tN k2 "b") (tK k3 "in")) (h3 : Nxt w b R (tK k3 "in") (tN k4 "c")) (h4 : Nxt w b R (tN k4 "c") (tP k5 "]")) (h5 : Nxt w b R (tP k5 "]") (tE k6)) : Nd w b (cAsT R (cuA n (tN k0 "a") a) (tE k6) can (Z "Index") k0.ln (.node (Z "Index") [.node (Z "Name") [.str (Z "a")], .node (Z "Binary") [.str (Z "in"), .node (Z "Name") [.str (Z "b")], .node (Z "Name") [.str (Z "c")]]]) 160 1300) := nf [44, 46] [3, 4, 0, 1, 2, 28, 29, 30, 5, 6, 7, 18, 19, 20, 10, 11, 12] 2222 (Kk [Kjt,Kpm,Kon,Kaq,Kdh,Ken,Kis,Kkg,129,Kfj,Kah,Kls,Kak,Kht,Kaw,Kqq,Kae,140,Kkz,129,Kjy,Kkz,Klk,Klo,Kew,Kak,Kgv,Kaf,Kie,Kew,Kaf,Kgl,Kax,128,Kbk,Kaj,Knr,Knf,Khw,Kmr,Knc,Kkx,Kak,Kkx,Kak,Kkx,Keh,Klv,Klp,Kmj,Kch,Kme,Kbu,Kjd,Kak,Kmk,Kbu,Kky,Kcp,Kkw,Kdy,Knd,Kdi,Knd,Knq,Kqn,Knw,Kgb,Kab,Kev,Kna,Kkh,Kab,Kho,Kdy,Koi,Kab,Kou,Kph,Kot,Kka,Kab,Kri,Kpw,Kes,Kro,Kot,Kka,Kah,Kri,Kaf,Kdk,Kjg,167,Kah,Kot,0x2a0027,Kfn,21395,Kah,Kot,0x2a0027,Knb,147,Kot,Kka,Kah,Kri,Kaf,Kei,Kjr,Kot,Kka,Kah,Kri,Kaf,0x12e5cb94,Kot,Kka,Kah,Kri,Kaf,128,Kin,Kab,154,Kag,154,Kqd,Khp,Kbn,Kmw,Kqb,Krf,Klg,Kah,Krg,Kaf,156,Krf,Klg,Kah,Krg,Kaf,0xa6009931c,Krf,Klg,Kah,Krg,Kaf,0xac4e9d3a6,Kah,Krf,0x2b402c,Kfn,0xa900a54a7,Krf,Klg,Kab,Krg,169,Kaf,0x552a54a40a9,Krf,Klg,Kah,Krg,Kaf,170,Krh,22059,Kah,Krf,0x2b402c,Kfn,171,Krf,Klg,Kah,Krg,Kaf,171]) (fun f B T => vc (cGoIn R (cuA n (tN k0 "a") a)) [1, 2] (n_goIn w b R _ (dn (n := n) (by omega))) rfl fun x1 => vcE "name" "punct" false (by rfl') fun x2 => vcE "name" "punct" false (by rfl') fun x3 => vcE "name" "keyword" false (by rfl') fun x4 => vc (cWord R (cuA (n + 1) (tN k0 "a") (a.pY x1.2.2)) (Z "new") false) [6, 7, 10, 11] (n_word0 w b R _ _ (by rfl')) rfl fun x5 => vcE "name" "name" true (by rfl') fun x6 => vc (cStrNe (Z "name") (Z "name") false) [] (n_str_ne w b _ _ _ (by rfl')) rfl fun x7 => vc (cTake R (cuA (n + 1) (tN k0 "a") (a.pY x1.2.2)) (tP k1 "[")) [10, 11, 12, 13] (h0 _ rfl rfl rfl) rfl fun x8 => vc (cNode R.P (Z "Name") k0.ln x8.1) [] (n_nodeP w b hw _ _ _) rfl fun x9 => vc (cSign R (cuA (n + 1) (tP k1 "[") (aY x8.2.2)) (Z ".") false) [16, 17, 4, 5] (n_sign1 w b R _ _ false (by rfl') (by rfl')) rfl fun x10 => vc (cSign R (cuA (n + 1) (tP k1 "[") (aY x8.2.2)) (Z "[") true) [16, 17, 4, 5] (n_sign1 w b R _ _ true (by rfl') (by rfl')) rfl fun x11 => vc (cTake R (cuA (n + 1) (tP k1 "[") (aY x8.2.2)) (tN k2 "b")) [16, 17, 18, 19] (h1 _ rfl rfl rfl) rfl fun x12 => vcE "[" "." false (by rfl') fun x13 => vc (cGoIn R (cuA (n + 1) (tN k2 "b") (aY x12.2.2))) [20, 21] (n_goIn w b R _ (dn (n := (n + 1)) (by omega))) rfl fun x14 => vc (cUnN R ((cuA (n + 1 + 1) k2 ((aY x12.2.2).pY x14.2.2)).as sN (Z "b")) (tK k3 "in")) [22, 23, 24, 25, 4, 5] (n_un0 w b R _ _ _ hw (h2 _ rfl rfl rfl) (by rfl')) rfl fun x15 => vc (cPrio R (cuA (n + 1 + 1) (tK k3 "in") (aY x15.2.2)) true 7) [27, 28, 0, 1] (n_prioI_true w b R _ (by rfl') (n_word_true w b R _ _ (by rfl') (by rfl'))) rfl fun x16 => vcG 7 1 true rfl fun x17 => vc (cPrio R (cuA (n + 1 + 1) (tK k3 "in") (aY x15.2.2)) true 7) [27, 28, 0, 1] (n_prioI_true w b R _ (by rfl') (n_word_true w b R _ _ (by rfl') (by rfl'))) rfl fun x18 => vc (cTake R (cuA (n + 1 + 1) (tK k3 "in") (aY x15.2.2)) (tN k4 "c")) [27, 28, 29, 30] (h3 _ rfl rfl rfl) rfl fun x19 => vc (cUnN R ((cuA (n + 1 + 1) k4 (aY x19.2.2)).as sN (Z "c")) (tP k5 "]")) [30, 31, 32, 33, 1, 2] (n_un1 w b R _ _ _ hw (h4 _ rfl rfl rfl) (by rfl') (by rfl') (by rfl') (by rfl') (by rfl')) rfl fun x20 => vc (cPrio R (cuA (n + 1 + 1) (tP k5 "]") (aY x20.2.2)) true 0) [35, 36, 0, 1] (n_prioP w b R _ _ 0 (by rfl') (by rfl')) rfl fun x21 => vcG 0 8 false rfl fun x22 => vc (cNode R.P (Z "Binary") k2.ln x21.1) [] (n_nodeP w b hw _ _ _) rfl fun x23 => vc (cPrio R (cuA (n + 1 + 1) (tP k5 "]") (aY x20.2.2)) true 0) [38, 39, 3, 4] (n_prioP w b R _ _ 0 (by rfl') (by rfl')) rfl fun x24 => vcG 0 1 false rfl fun x25 => vc (cEatN R (cuA (n + 1 + 1) (tP k5 "]") (aY x20.2.2)) (Z "?")) [38, 39, 3, 4] (n_eatN w b R _ _ (n_sign1 w b R _ _ false (by rfl') (by rfl'))) rfl fun x26 => vcE "punct" "punct" true (by rfl') fun x27 => vc (cInT 732 (Z "]") false) [] (n_inT w b 732 _ _ (by rfl')) rfl fun x28 => vc (cGoOut' R (cuA (n + 1 + 1) (tP k5 "]") (aY x20.2.2)) (n + 1)) [38, 39] (n_goOut' w b R _ _ (dm (n + 1))) rfl fun x29 => vc (cSign R (cuA (n + 1) (tP k5 "]") ((aY x20.2.2).pY x29.2.2)) (Z ",") false) [38, 39, 3, 4] (n_sign1 w b R _ _ false (by rfl') (by rfl')) rfl fun x30 => vc (cNeed R (cuA (n + 1) (tP k5 "]") ((aY x20.2.2).pY x29.2.2)) (Z "]") (tE k6)) [38, 39, 40, 41, 3, 4] (n_need w b R _ _ _ (n_eatY w b R _ _ _ (n_sign1 w b R _ _ true (by rfl') (by rfl')) (h5 _ rfl rfl rfl))) rfl fun x31 => vc (cNode R.P (Z "Index") k0.ln x31.1) [] (n_nodeP w b hw _ _ _) rfl fun x32 => vc (cSign R (cuA (n + 1) (tE k6) (aY x31.2.2)) (Z ".") false) [43, 44, 3, 4] (n_sign0 w b R _ _ (by rfl')) rfl fun x33 => vc (cSign R (cuA (n + 1) (tE k6) (aY x31.2.2)) (Z "[") false) [43, 44, 3, 4] (n_sign0 w b R _ _ (by rfl')) rfl fun x34 => vc (cSign R (cuA (n + 1) (tE k6) (aY x31.2.2)) (Z "(") false) [43, 44, 3, 4] (n_sign0 w b R _ _ (by rfl')) rfl fun x35 => vc (cStrNe (Z "end") (Z "punct") true) [] (n_str_ne w b _ _ _ (by rfl')) rfl fun x36 => vc (cPrio R (cuA (n + 1) (tE k6) (aY x31.2.2)) can 0) [43, 44, 3, 4] (n_prioO_false w b R _ _ (by rfl') (n_word0 w b R _ _ (by rfl')) (n_word0 w b R _ _ (by rfl'))) rfl fun x37 => vcG 0 1 false rfl fun x38 => vc (cEatN R (cuA (n + 1) (tE k6) (aY x31.2.2)) (Z "?")) [43, 44, 3, 4] (n_eatN w b R _ _ (n_sign0 w b R _ _ (by rfl'))) rfl fun x39 => vcE "end" "punct" false (by rfl') fun x40 => vc (cGoOut' R (cuA (n + 1) (tE k6) (aY x31.2.2)) n) [43, 44] (n_goOut' w b R _ _ (dm n)) rfl fun x41 => ve) fun f B T x1 x2 x3 x4 x5 x6 x7 x8 x9 x10 x11 x12 x13 x14 x15 x16 x17 x18 x19 x20 x21 x22 x23 x24 x25 x26 x27 x28 x29 x30 x31 x32 x33 x34 x35 x36 x37 x38 x39 x40 x41 => ⟨(natAt (yH ((aY x31.2.2).pY x41.2.2) ((x32.2.2 0) :: (x32.2.2 1) :: x31.1 :: (rn x32.2.2 2 6 [0, 0, 0, B])))), ((x31.1, listO [.ref (x9.2.2 0), .ref (x23.2.2 0)]) :: ((x9.2.2 0), inst 38 (x9.2.2 1)) :: ((x9.2.2 1), nodeO R.P (Z "Name") k0.ln x8.1 (natAt (rn x9.2.2 2 4 [])) (natAt [(x9.2.2 6), (x9.2.2 7), 0, 0])) :: (x8.1, listO [.str (Z "a") (a.tv 1)]) :: ((x23.2.2 0), inst 38 (x23.2.2 1)) :: ((x23.2.2 1), nodeO R.P (Z "Binary") k2.ln x21.1 (natAt (rn x23.2.2 2 4 [])) (natAt [(x23.2.2 6), (x23.2.2 7), 0, 0])) :: (x21.1, listO [.str (Z "in") (x15.2.2 14), .ref (x15.2.2 29), .ref (x20.2.2 29)]) :: (nmO R.P "b" k2.ln x15.2.2 (nmO R.P "c" k4.ln x20.2.2 []))), [], by cases b <;> rfl', f1 fun h' hs hf m => nT (m 2 rfl) (m 3 rfl) (m 4 rfl) (.cons (nT (m 5 rfl) (m 6 rfl) (m 7 rfl) (.cons (.str _ _) .nil)) (.cons (nT (m 8 rfl) (m 9 rfl) (m 10 rfl) (.cons (.str _ _) (.cons (nT (m 11 rfl) (m 12 rfl) (m 13 rfl) (.cons (.str _ _) .nil)) (.cons (nT (m 14 rfl) (m 15 rfl) (m 16 rfl) (.cons (.str _ _) .nil)) .nil)))) .nil))⟩
theorem op8 (w b) (R : Rd) (n : Int) (a : Ca) (k0 k1 k2 k3 : Tk) (can : Bool) (hw : R.P = w.params) (hn : n ≤ 20) (h0 : Nxt w b R (tN k0 "b") (tK k1 "instanceof")) (h1 : Nxt w b R (tK k1 "instanceof") (tN k2 "c")) (h2 : Nxt w b R (tN k2 "c") (tE k3)) : Nd w b (cAsT R (cuA n (tN k0 "b") a) (tE k3) can (Z "Binary") k0.ln (.node (Z "Binary") [.str (Z "instanceof"), .node (Z "Name") [.str (Z "b")], .node (Z "Name") [.str (Z "c")]]) 160 1300) := nf [20, 22] [3, 4, 0, 1, 2, 13, 14, 15, 5, 6, 7] 663 (Kk [Kpb,Kdi,Kkl,Knq,Kgv,Knw,Kng,Kna,Kki,Kdy,Knk,Kph,Kme,Kpw,Kes,Kro,Kni,Kaf,Kdk,147,Kei,Kah,Kez,148,Kqc,Kfn,Kei,Kcr,Kcr,Kah,Kgk,Kaf,147]) (fun f B T => vc (cGoIn R (cuA n (tN k0 "b") a)) [1, 2] (n_goIn w b R _ (dn (n := n) (by omega))) rfl fun x1 => vc (cUnN R ((cuA (n + 1) k0 (a.pY x1.2.2)).as sN (Z "b")) (tK k1 "instanceof")) [3, 4, 5, 6, 7, 8] (n_un0 w b R _ _ _ hw (h0 _ rfl rfl rfl) (by rfl')) rfl fun x2 => vc (cPrio R (cuA (n + 1) (tK k1 "instanceof") (aY x2.2.2)) can 7) [8, 9, 0, 1] (n_prioO_true w b R _ _ (by rfl') (n_word_false w b R _ _ (by rfl') (by rfl')) (n_word_true w b R _ _ (by rfl') (by rfl'))) rfl fun x3 => vcG 7 1 true rfl fun x4 => vc (cPrio R (cuA (n + 1) (tK k1 "instanceof") (aY x2.2.2)) can 7) [8, 9, 0, 1] (n_prioO_true w b R _ _ (by rfl') (n_word_false w b R _ _ (by rfl') (by rfl')) (n_word_true w b R _ _ (by rfl') (by rfl'))) rfl fun x5 => vc (cTake R (cuA (n + 1) (tK k1 "instanceof") (aY x2.2.2)) (tN k2 "c")) [8, 9, 10, 11] (h1 _ rfl rfl rfl) rfl fun x6 => vc (cUnN R ((cuA (n + 1) k2 (aY x6.2.2)).as sN (Z "c")) (tE k3)) [11, 12, 13, 14, 1, 2] (n_un0 w b R _ _ _ hw (h2 _ rfl rfl rfl) (by rfl')) rfl fun x7 => vc (cPrio R (cuA (n + 1) (tE k3) (aY x7.2.2)) can 0) [16, 17, 0, 1] (n_prioO_false w b R _ _ (by rfl') (n_word0 w b R _ _ (by rfl')) (n_word0 w b R _ _ (by rfl'))) rfl fun x8 => vcG 0 8 false rfl fun x9 => vc (cNode R.P (Z "Binary") k0.ln x8.1) [] (n_nodeP w b hw _ _ _) rfl fun x10 => vc (cPrio R (cuA (n + 1) (tE k3) (aY x7.2.2)) can 0) [19, 20, 3, 4] (n_prioO_false w b R _ _ (by rfl') (n_word0 w b R _ _ (by rfl')) (n_word0 w b R _ _ (by rfl'))) rfl fun x11 => vcG 0 1 false rfl fun x12 => vc (cEatN R (cuA (n + 1) (tE k3) (aY x7.2.2)) (Z "?")) [19, 20, 3, 4] (n_eatN w b R _ _ (n_sign0 w b R _ _ (by rfl'))) rfl fun x13 => vcE "end" "punct" false (by rfl') fun x14 => vc (cGoOut' R (cuA (n + 1) (tE k3) (aY x7.2.2)) n) [19, 20] (n_goOut' w b R _ _ (dm n)) rfl fun x15 => ve) fun f B T x1 x2 x3 x4 x5 x6 x7 x8 x9 x10 x11 x12 x13 x14 x15 => ⟨(natAt (yH ((aY x7.2.2).pY x15.2.2) ((x10.2.2 0) :: (x10.2.2 1) :: x8.1 :: (rn x10.2.2 2 6 [0, 0, 0, B])))), ((x8.1, listO [.str (Z "instanceof") (x2.2.2 14), .ref (x2.2.2 29), .ref (x7.2.2 29)]) :: (nmO R.P "b" k0.ln x2.2.2 (nmO R.P "c" k2.ln x7.2.2 []))), [], by cases b <;> rfl', f1 fun h' hs hf m => nT (m 2 rfl) (m 3 rfl) (m 4 rfl) (.cons (.str _ _) (.cons (nT (m 5 rfl) (m 6 rfl) (m 7 rfl) (.cons (.str _ _) .nil)) (.cons (nT (m 8 rfl) (m 9 rfl) (m 10 rfl) (.cons (.str _ _) .nil)) .nil)))⟩
theorem op9t (w b) (R : Rd) (n : Int) (a : Ca) (k0 k1 k2 k3 k4 k5 : Tk) (hw : R.P = w.params) (hn : n ≤ 20) (h0 : Nxt w b R (tN k0 "b") (tP k1 "<")) (h1 : Nxt w b R (tP k1 "<") (tN k2 "c")) (h2 : Nxt w b R (tN k2 "c") (tK k3 "in")) (h3 : Nxt w b R (tK k3 "in") (tN k4 "d")) (h4 : Nxt w b R (tN k4 "d") (tE k5)) : Nd w b (cAsT R (cuA n (tN k0 "b") a) (tE k5) true (Z "Binary") k0.ln (.node (Z "Binary") [.str (Z "in"), .node (Z "Binary") [.str (Z "<"), .node (Z "Name") [.str (Z "b")], .node (Z "Name") [.str (Z "c")]], .node (Z "Name") [.str (Z "d")]]) 160 1300) := nf [31, 33] [3, 4, 0, 1, 2, 11, 12, 13, 24, 25, 26, 16, 17, 18, 5, 6, 7] 981 (Kk [Kpb,Kdi,Kkl,Knq,Kgv,Knw,Kng,Kna,Kki,Kdy,Knk,Kph,Kme,Kpw,145,Kme,145,Kaf,Kpg,Kni,Kaf,Kfa,Kff,Kjg,Kky,147,Kff,Kms,Kkw,Kdy,Knd,Kdi,Khp,0x13200c80,Kdh,Khp,153,Kbn,Kmw,Kqb,Kkh,Kab,Kho,156,Kaf,16540,Kgr,Krl,Kpa,Kaf,Khz,158,Kev,Kah,Khn,159,Koy,Kfn,Kev,Kds,Kds,Knt,Kaf,158]) (fun f B T => vc (cGoIn R (cuA n (tN k0 "b") a)) [1, 2] (n_goIn w b R _ (dn (n := n) (by omega))) rfl fun x1 => vc (cUnN R ((cuA (n + 1) k0 (a.pY x1.2.2)).as sN (Z "b")) (tP k1 "<")) [3, 4, 5, 6, 7, 8] (n_un1 w b R _ _ _ hw (h0 _ rfl rfl rfl) (by rfl') (by rfl') (by rfl') (by rfl') (by rfl')) rfl fun x2 => vc (cPrio R (cuA (n + 1) (tP k1 "<") (aY x2.2.2)) true 7) [8, 9, 0, 1] (n_prioP w b R _ _ 7 (by rfl') (by rfl')) rfl fun x3 => vcG 7 1 true rfl fun x4 => vc (cPrio R (cuA (n + 1) (tP k1 "<") (aY x2.2.2)) true 7) [8, 9, 0, 1] (n_prioP w b R _ _ 7 (by rfl') (by rfl')) rfl fun x5 => vc (cTake R (cuA (n + 1) (tP k1 "<") (aY x2.2.2)) (tN k2 "c")) [8, 9, 10, 11] (h1 _ rfl rfl rfl) rfl fun x6 => vc (cUnN R ((cuA (n + 1) k2 (aY x6.2.2)).as sN (Z "c")) (tK k3 "in")) [11, 12, 13, 14, 1, 2] (n_un0 w b R _ _ _ hw (h2 _ rfl rfl rfl) (by rfl')) rfl fun x7 => vc (cPrio R (cuA (n + 1) (tK k3 "in") (aY x7.2.2)) true 7) [16, 17, 0, 1] (n_prioI_true w b R _ (by rfl') (n_word_true w b R _ _ (by rfl') (by rfl'))) rfl fun x8 => vcG 7 8 false rfl fun x9 => vc (cNode R.P (Z "Binary") k0.ln x8.1) [] (n_nodeP w b hw _ _ _) rfl fun x10 => vc (cPrio R (cuA (n + 1) (tK k3 "in") (aY x7.2.2)) true 7) [19, 20, 3, 4] (n_prioI_true w b R _ (by rfl') (n_word_true w b R _ _ (by rfl') (by rfl'))) rfl fun x11 => vcG 7 1 true rfl fun x12 => vc (cPrio R (cuA (n + 1) (tK k3 "in") (aY x7.2.2)) true 7) [19, 20, 3, 4] (n_prioI_true w b R _ (by rfl') (n_word_true w b R _ _ (by rfl') (by rfl'))) rfl fun x13 => vc (cTake R (cuA (n + 1) (tK k3 "in") (aY x7.2.2)) (tN k4 "d")) [19, 20, 21, 22] (h3 _ rfl rfl rfl) rfl fun x14 => vc (cUnN R ((cuA (n + 1) k4 (aY x14.2.2)).as sN (Z "d")) (tE k5)) [22, 23, 24, 25, 1, 2] (n_un0 w b R _ _ _ hw (h4 _ rfl rfl rfl) (by rfl')) rfl fun x15 => vc (cPrio R (cuA (n + 1) (tE k5) (aY x15.2.2)) true 0) [27, 28, 0, 1] (n_prioO_false w b R _ _ (by rfl') (n_word0 w b R _ _ (by rfl')) (n_word0 w b R _ _ (by rfl'))) rfl fun x16 => vcG 0 8 false rfl fun x17 => vc (cNode R.P (Z "Binary") k0.ln x16.1) [] (n_nodeP w b hw _ _ _) rfl fun x18 => vc (cPrio R (cuA (n + 1) (tE k5) (aY x15.2.2)) true 0) [30, 31, 3, 4] (n_prioO_false w b R _ _ (by rfl') (n_word0 w b R _ _ (by rfl')) (n_word0 w b R _ _ (by rfl'))) rfl fun x19 => vcG 0 1 false rfl fun x20 => vc (cEatN R (cuA (n + 1) (tE k5) (aY x15.2.2)) (Z "?")) [30, 31, 3, 4] (n_eatN w b R _ _ (n_sign0 w b R _ _ (by rfl'))) rfl fun x21 => vcE "end" "punct" false (by rfl') fun x22 => vc (cGoOut' R (cuA (n + 1) (tE k5) (aY x15.2.2)) n) [30, 31] (n_goOut' w b R _ _ (dm n)) rfl fun x23 => ve) fun f B T x1 x2 x3 x4 x5 x6 x7 x8 x9 x10 x11 x12 x13 x14 x15 x16 x17 x18 x19 x20 x21 x22 x23 => ⟨(natAt (yH ((aY x15.2.2).pY x23.2.2) ((x18.2.2 0) :: (x18.2.2 1) :: x16.1 :: (rn x18.2.2 2 6 [0, 0, 0, B])))), ((x16.1, listO [.str (Z "in") (x7.2.2 14), .ref (x10.2.2 0), .ref (x15.2.2 29)]) :: ((x10.2.2 0), inst 38 (x10.2.2 1)) :: ((x10.2.2 1), nodeO R.P (Z "Binary") k0.ln x8.1 (natAt (rn x10.2.2 2 4 [])) (natAt [(x10.2.2 6), (x10.2.2 7), 0, 0])) :: (x8.1, listO [.str (Z "<") (x2.2.2 14), .ref (x2.2.2 29), .ref (x7.2.2 29)]) :: (nmO R.P "b" k0.ln x2.2.2 (nmO R.P "c" k2.ln x7.2.2 (nmO R.P "d" k4.ln x15.2.2 [])))), [], by cases b <;> rfl', f1 fun h' hs hf m => nT (m 2 rfl) (m 3 rfl) (m 4 rfl) (.cons (.str _ _) (.cons (nT (m 5 rfl) (m 6 rfl) (m 7 rfl) (.cons (.str _ _) (.cons (nT (m 8 rfl) (m 9 rfl) (m 10 rfl) (.cons (.str _ _) .nil)) (.cons (nT (m 11 rfl) (m 12 rfl) (m 13 rfl) (.cons (.str _ _) .nil)) .nil)))) (.cons (nT (m 14 rfl) (m 15 rfl) (m 16 rfl) (.cons (.str _ _) .nil)) .nil)))⟩
theorem op9f (w b) (R : Rd) (n : Int) (a : Ca) (k0 k1 k2 k3 : Tk) (hw : R.P = w.params) (hn : n ≤ 20) (h0 : Nxt w b R (tN k0 "b") (tP k1 "<")) (h1 : Nxt w b R (tP k1 "<") (tN k2 "c")) (h2 : Nxt w b R (tN k2 "c") (tK k3 "in")) : Nd w b (cAsT R (cuA n (tN k0 "b") a) (tK k3 "in") false (Z "Binary") k0.ln (.node (Z "Binary") [.str (Z "<"), .node (Z "Name") [.str (Z "b")], .node (Z "Name") [.str (Z "c")]]) 160 1300) := nf [20, 22] [3, 4, 0, 1, 2, 13, 14, 15, 5, 6, 7] 663 (Kk [Kpb,Kdi,Kkl,Knq,Kgv,Knw,Kng,Kna,Kki,Kdy,Knk,Kph,Kme,Kpw,Kes,Kro,Kni,Kaf,Kdk,147,Kei,Kah,Kez,148,Kqc,Kfn,Kei,Kcr,Kcr,Kah,Kgk,Kaf,147]) (fun f B T => vc (cGoIn R (cuA n (tN k0 "b") a)) [1, 2] (n_goIn w b R _ (dn (n := n) (by omega))) rfl fun x1 => vc (cUnN R ((cuA (n + 1) k0 (a.pY x1.2.2)).as sN (Z "b")) (tP k1 "<")) [3, 4, 5, 6, 7, 8] (n_un1 w b R _ _ _ hw (h0 _ rfl rfl rfl) (by rfl') (by rfl') (by rfl') (by rfl') (by rfl')) rfl fun x2 => vc (cPrio R (cuA (n + 1) (tP k1 "<") (aY x2.2.2)) false 7) [8, 9, 0, 1] (n_prioP w b R _ _ 7 (by rfl') (by rfl')) rfl fun x3 => vcG 7 1 true rfl fun x4 => vc (cPrio R (cuA (n + 1) (tP k1 "<") (aY x2.2.2)) false 7) [8, 9, 0, 1] (n_prioP w b R _ _ 7 (by rfl') (by rfl')) rfl fun x5 => vc (cTake R (cuA (n + 1) (tP k1 "<") (aY x2.2.2)) (tN k2 "c")) [8, 9, 10, 11] (h1 _ rfl rfl rfl) rfl fun x6 => vc (cUnN R ((cuA (n + 1) k2 (aY x6.2.2)).as sN (Z "c")) (tK k3 "in")) [11, 12, 13, 14, 1, 2] (n_un0 w b R _ _ _ hw (h2 _ rfl rfl rfl) (by rfl')) rfl fun x7 => vc (cPrio R (cuA (n + 1) (tK k3 "in") (aY x7.2.2)) false 0) [16, 17, 0, 1] (n_prioI_false w b R _ (by rfl') (n_word_true w b R _ _ (by rfl') (by rfl'))) rfl fun x8 => vcG 0 8 false rfl fun x9 => vc (cNode R.P (Z "Binary") k0.ln x8.1) [] (n_nodeP w b hw _ _ _) rfl fun x10 => vc (cPrio R (cuA (n + 1) (tK k3 "in") (aY x7.2.2)) false 0) [19, 20, 3, 4] (n_prioI_false w b R _ (by rfl') (n_word_true w b R _ _ (by rfl') (by rfl'))) rfl fun x11 => vcG 0 1 false rfl fun x12 => vc (cEatN R (cuA (n + 1) (tK k3 "in") (aY x7.2.2)) (Z "?")) [19, 20, 3, 4] (n_eatN w b R _ _ (n_sign0 w b R _ _ (by rfl'))) rfl fun x13 => vcE "keyword" "punct" false (by rfl') fun x14 => vc (cGoOut' R (cuA (n + 1) (tK k3 "in") (aY x7.2.2)) n) [19, 20] (n_goOut' w b R _ _ (dm n)) rfl fun x15 => ve) fun f B T x1 x2 x3 x4 x5 x6 x7 x8 x9 x10 x11 x12 x13 x14 x15 => ⟨(natAt (yH ((aY x7.2.2).pY x15.2.2) ((x10.2.2 0) :: (x10.2.2 1) :: x8.1 :: (rn x10.2.2 2 6 [0, 0, 0, B])))), ((x8.1, listO [.str (Z "<") (x2.2.2 14), .ref (x2.2.2 29), .ref (x7.2.2 29)]) :: (nmO R.P "b" k0.ln x2.2.2 (nmO R.P "c" k2.ln x7.2.2 []))), [], by cases b <;> rfl', f1 fun h' hs hf m => nT (m 2 rfl) (m 3 rfl) (m 4 rfl) (.cons (.str _ _) (.cons (nT (m 5 rfl) (m 6 rfl) (m 7 rfl) (.cons (.str _ _) .nil)) (.cons (nT (m 8 rfl) (m 9 rfl) (m 10 rfl) (.cons (.str _ _) .nil)) .nil)))⟩
theorem op10t (w b) (R : Rd) (n : Int) (a : Ca) (k0 k1 k2 k3 k4 k5 : Tk) (hw : R.P = w.params) (hn : n ≤ 20) (h0 : Nxt w b R (tN k0 "b") (tP k1 "||")) (h1 : Nxt w b R (tP k1 "||") (tN k2 "c")) (h2 : Nxt w b R (tN k2 "c") (tK k3 "in")) (h3 : Nxt w b R (tK k3 "in") (tN k4 "d")) (h4 : Nxt w b R (tN k4 "d") (tE k5)) : Nd w b (cAsT R (cuA n (tN k0 "b") a) (tE k5) true (Z "Logical") k0.ln (.node (Z "Logical") [.str (Z "||"), .node (Z "Name") [.str (Z "b")], .node (Z "Binary") [.str (Z "in"), .node (Z "Name") [.str (Z "c")], .node (Z "Name") [.str (Z "d")]]]) 160 1300) := nf [31, 33] [6, 7, 0, 1, 2, 24, 25, 26, 3, 4, 5, 16, 17, 18, 8, 9, 10] 981 (Kk [Kpb,Kdi,Kkl,Knq,Kgv,Knw,Kng,Kna,Kki,Kdy,Knk,Kdi,Knk,Knq,Kkx,Knw,Kmj,Kna,Kme,Kdy,Kmx,Kab,Kin,Kph,Knd,Kpw,145,Khp,0x963200c80,Kab,150,Kag,0x12e00b16,Khp,153,Kbn,Kmw,Kqb,Kkh,Kab,Kho,156,Kaf,16540,Kgr,Krl,Kpa,Kaf,Khz,158,Kev,Kah,Khn,159,Koy,135,Klv,Kaf,Kev,Kds,Kds,Knt,Kaf,158]) (fun f B T => vc (cGoIn R (cuA n (tN k0 "b") a)) [1, 2] (n_goIn w b R _ (dn (n := n) (by omega))) rfl fun x1 => vc (cUnN R ((cuA (n + 1) k0 (a.pY x1.2.2)).as sN (Z "b")) (tP k1 "||")) [3, 4, 5, 6, 7, 8] (n_un1 w b R _ _ _ hw (h0 _ rfl rfl rfl) (by rfl') (by rfl') (by rfl') (by rfl') (by rfl')) rfl fun x2 => vc (cPrio R (cuA (n + 1) (tP k1 "||") (aY x2.2.2)) true 1) [8, 9, 0, 1] (n_prioP w b R _ _ 1 (by rfl') (by rfl')) rfl fun x3 => vcG 1 1 true rfl fun x4 => vc (cPrio R (cuA (n + 1) (tP k1 "||") (aY x2.2.2)) true 1) [8, 9, 0, 1] (n_prioP w b R _ _ 1 (by rfl') (by rfl')) rfl fun x5 => vc (cTake R (cuA (n + 1) (tP k1 "||") (aY x2.2.2)) (tN k2 "c")) [8, 9, 10, 11] (h1 _ rfl rfl rfl) rfl fun x6 => vc (cUnN R ((cuA (n + 1) k2 (aY x6.2.2)).as sN (Z "c")) (tK k3 "in")) [11, 12, 13, 14, 1, 2] (n_un0 w b R _ _ _ hw (h2 _ rfl rfl rfl) (by rfl')) rfl fun x7 => vc (cPrio R (cuA (n + 1) (tK k3 "in") (aY x7.2.2)) true 7) [16, 17, 0, 1] (n_prioI_true w b R _ (by rfl') (n_word_true w b R _ _ (by rfl') (by rfl'))) rfl fun x8 => vcG 7 2 true rfl fun x9 => vc (cPrio R (cuA (n + 1) (tK k3 "in") (aY x7.2.2)) true 7) [16, 17, 0, 1] (n_prioI_true w b R _ (by rfl') (n_word_true w b R _ _ (by rfl') (by rfl'))) rfl fun x10 => vc (cTake R (cuA (n + 1) (tK k3 "in") (aY x7.2.2)) (tN k4 "d")) [16, 17, 18, 19] (h3 _ rfl rfl rfl) rfl fun x11 => vc (cUnN R ((cuA (n + 1) k4 (aY x11.2.2)).as sN (Z "d")) (tE k5)) [19, 20, 21, 22, 1, 2] (n_un0 w b R _ _ _ hw (h4 _ rfl rfl rfl) (by rfl')) rfl fun x12 => vc (cPrio R (cuA (n + 1) (tE k5) (aY x12.2.2)) true 0) [24, 25, 0, 1] (n_prioO_false w b R _ _ (by rfl') (n_word0 w b R _ _ (by rfl')) (n_word0 w b R _ _ (by rfl'))) rfl fun x13 => vcG 0 8 false rfl fun x14 => vc (cNode R.P (Z "Binary") k2.ln x13.1) [] (n_nodeP w b hw _ _ _) rfl fun x15 => vc (cPrio R (cuA (n + 1) (tE k5) (aY x12.2.2)) true 0) [27, 28, 3, 4] (n_prioO_false w b R _ _ (by rfl') (n_word0 w b R _ _ (by rfl')) (n_word0 w b R _ _ (by rfl'))) rfl fun x16 => vcG 0 2 false rfl fun x17 => vc (cNode R.P (Z "Logical") k0.ln x16.1) [] (n_nodeP w b hw _ _ _) rfl fun x18 => vc (cPrio R (cuA (n + 1) (tE k5) (aY x12.2.2)) true 0) [30, 31, 6, 7] (n_prioO_false w b R _ _ (by rfl') (n_word0 w b R _ _ (by rfl')) (n_word0 w b R _ _ (by rfl'))) rfl fun x19 => vcG 0 1 false rfl fun x20 => vc (cEatN R (cuA (n + 1) (tE k5) (aY x12.2.2)) (Z "?")) [30, 31, 6, 7] (n_eatN w b R _ _ (n_sign0 w b R _ _ (by rfl'))) rfl fun x21 => vcE "end" "punct" false (by rfl') fun x22 => vc (cGoOut' R (cuA (n + 1) (tE k5) (aY x12.2.2)) n) [30, 31] (n_goOut' w b R _ _ (dm n)) rfl fun x23 => ve) fun f B T x1 x2 x3 x4 x5 x6 x7 x8 x9 x10 x11 x12 x13 x14 x15 x16 x17 x18 x19 x20 x21 x22 x23 => ⟨(natAt (yH ((aY x12.2.2).pY x23.2.2) ((x18.2.2 0) :: (x18.2.2 1) :: x16.1 :: (rn x18.2.2 2 6 [0, 0, 0, B])))), ((x16.1, listO [.str (Z "||") (x2.2.2 14), .ref (x2.2.2 29), .ref (x15.2.2 0)]) :: (nmO R.P "b" k0.ln x2.2.2 (((x15.2.2 0), inst 38 (x15.2.2 1)) :: ((x15.2.2 1), nodeO R.P (Z "Binary") k2.ln x13.1 (natAt (rn x15.2.2 2 4 [])) (natAt [(x15.2.2 6), (x15.2.2 7), 0, 0])) :: (x13.1, listO [.str (Z "in") (x7.2.2 14), .ref (x7.2.2 29), .ref (x12.2.2 29)]) :: (nmO R.P "c" k2.ln x7.2.2 (nmO R.P "d" k4.ln x12.2.2 []))))), [], by cases b <;> rfl', f1 fun h' hs hf m => nT (m 2 rfl) (m 3 rfl) (m 4 rfl) (.cons (.str _ _) (.cons (nT (m 5 rfl) (m 6 rfl) (m 7 rfl) (.cons (.str _ _) .nil)) (.cons (nT (m 8 rfl) (m 9 rfl) (m 10 rfl) (.cons (.str _ _) (.cons (nT (m 11 rfl) (m 12 rfl) (m 13 rfl) (.cons (.str _ _) .nil)) (.cons (nT (m 14 rfl) (m 15 rfl) (m 16 rfl) (.cons (.str _ _) .nil)) .nil)))) .nil)))⟩
theorem op10f (w b) (R : Rd) (n : Int) (a : Ca) (k0 k1 k2 k3 : Tk) (hw : R.P = w.params) (hn : n ≤ 20) (h0 : Nxt w b R (tN k0 "b") (tP k1 "||")) (h1 : Nxt w b R (tP k1 "||") (tN k2 "c")) (h2 : Nxt w b R (tN k2 "c") (tK k3 "in")) : Nd w b (cAsT R (cuA n (tN k0 "b") a) (tK k3 "in") false (Z "Logical") k0.ln (.node (Z "Logical") [.str (Z "||"), .node (Z "Name") [.str (Z "b")], .node (Z "Name") [.str (Z "c")]]) 160 1300) := nf [20, 22] [3, 4, 0, 1, 2, 13, 14, 15, 5, 6, 7] 663 (Kk [Kpb,Kdi,Kkl,Knq,Kgv,Knw,Kng,Kna,Kki,Kdy,Knk,Kph,Kme,Kpw,Kes,Kro,Kni,Kaf,Kdk,147,Kei,Kah,Kez,148,Kqc,Kfn,Kei,Kcr,Kcr,Kah,Kgk,Kaf,147]) (fun f B T => vc (cGoIn R (cuA n (tN k0 "b") a)) [1, 2] (n_goIn w b R _ (dn (n := n) (by omega))) rfl fun x1 => vc (cUnN R ((cuA (n + 1) k0 (a.pY x1.2.2)).as sN (Z "b")) (tP k1 "||")) [3, 4, 5, 6, 7, 8] (n_un1 w b R _ _ _ hw (h0 _ rfl rfl rfl) (by rfl') (by rfl') (by rfl') (by rfl') (by rfl')) rfl fun x2 => vc (cPrio R (cuA (n + 1) (tP k1 "||") (aY x2.2.2)) false 1) [8, 9, 0, 1] (n_prioP w b R _ _ 1 (by rfl') (by rfl')) rfl fun x3 => vcG 1 1 true rfl fun x4 => vc (cPrio R (cuA (n + 1) (tP k1 "||") (aY x2.2.2)) false 1) [8, 9, 0, 1] (n_prioP w b R _ _ 1 (by rfl') (by rfl')) rfl fun x5 => vc (cTake R (cuA (n + 1) (tP k1 "||") (aY x2.2.2)) (tN k2 "c")) [8, 9, 10, 11] (h1 _ rfl rfl rfl) rfl fun x6 => vc (cUnN R ((cuA (n + 1) k2 (aY x6.2.2)).as sN (Z "c")) (tK k3 "in")) [11, 12, 13, 14, 1, 2] (n_un0 w b R _ _ _ hw (h2 _ rfl rfl rfl) (by rfl')) rfl fun x7 => vc (cPrio R (cuA (n + 1) (tK k3 "in") (aY x7.2.2)) false 0) [16, 17, 0, 1] (n_prioI_false w b R _ (by rfl') (n_word_true w b R _ _ (by rfl') (by rfl'))) rfl fun x8 => vcG 0 2 false rfl fun x9 => vc (cNode R.P (Z "Logical") k0.ln x8.1) [] (n_nodeP w b hw _ _ _) rfl fun x10 => vc (cPrio R (cuA (n + 1) (tK k3 "in") (aY x7.2.2)) false 0) [19, 20, 3, 4] (n_prioI_false w b R _ (by rfl') (n_word_true w b R _ _ (by rfl') (by rfl'))) rfl fun x11 => vcG 0 1 false rfl fun x12 => vc (cEatN R (cuA (n + 1) (tK k3 "in") (aY x7.2.2)) (Z "?")) [19, 20, 3, 4] (n_eatN w b R _ _ (n_sign0 w b R _ _ (by rfl'))) rfl fun x13 => vcE "keyword" "punct" false (by rfl') fun x14 => vc (cGoOut' R (cuA (n + 1) (tK k3 "in") (aY x7.2.2)) n) [19, 20] (n_goOut' w b R _ _ (dm n)) rfl fun x15 => ve) fun f B T x1 x2 x3 x4 x5 x6 x7 x8 x9 x10 x11 x12 x13 x14 x15 => ⟨(natAt (yH ((aY x7.2.2).pY x15.2.2) ((x10.2.2 0) :: (x10.2.2 1) :: x8.1 :: (rn x10.2.2 2 6 [0, 0, 0, B])))), ((x8.1, listO [.str (Z "||") (x2.2.2 14), .ref (x2.2.2 29), .ref (x7.2.2 29)]) :: (nmO R.P "b" k0.ln x2.2.2 (nmO R.P "c" k2.ln x7.2.2 []))), [], by cases b <;> rfl', f1 fun h' hs hf m => nT (m 2 rfl) (m 3 rfl) (m 4 rfl) (.cons (.str _ _) (.cons (nT (m 5 rfl) (m 6 rfl) (m 7 rfl) (.cons (.str _ _) .nil)) (.cons (nT (m 8 rfl) (m 9 rfl) (m 10 rfl) (.cons (.str _ _) .nil)) .nil)))⟩
theorem op11t (w b) (R : Rd) (n : Int) (a : Ca) (k0 k1 k2 k3 k4 : Tk) (hw : R.P = w.params) (hn : n ≤ 20) (h0 : Nxt w b R (tP k0 "-") (tN k1 "b")) (h1 : Nxt w b R (tN k1 "b") (tK k2 "in")) (h2 : Nxt w b R (tK k2 "in") (tN k3 "c")) (h3 : Nxt w b R (tN k3 "c") (tE k4)) : Nd w b (cAsT R (cuA n (tP k0 "-") a) (tE k4) true (Z "Binary") k0.ln (.node (Z "Binary") [.str (Z "in"), .node (Z "Unary") [.str (Z "-"), .node (Z "Name") [.str (Z "b")]], .node (Z "Name") [.str (Z "c")]]) 160 1300) := nf [27, 29] [3, 4, 0, 1, 2, 11, 12, 13, 16, 17, 18, 5, 6, 7] 1099 (Kk [Kjt,Kpm,Kon,Kdb,Kon,Kfb,Kdh,Kaj,Kis,Khg,Kha,134,Koa,Kai,Khd,Klp,Khe,Kaf,Kdr,Knh,Kqs,145,Kmr,129,Kcx,145,Kmr,18569,Kmr,137,Kbn,Kcn,Kfz,Kog,141,Kaf,0x23408d,Kog,141,Kaf,Kjv,Kku,Kah,Kjh,Kaf,Kfa,Kdp,Kfd,Kom,143,Kdp,Kms,Kmj,Kdy,Koe,Kdi,19093,Kqc,Kqc,Kdh,0x254a95,Kbn,0x13000c18,Kpu,Kjq,Kab,Krm,152,Kaf,0x260098,Khp,153,Kpu,Kjq,Kah,Krm,Kaf,Kin,154,Knz,Kah,Kpu,155,Kqb,Kfn,Knz,Kjq,Kjq,Kah,Krm,Kaf,154]) (fun f B T => vc (cGoIn R (cuA n (tP k0 "-") a)) [1, 2] (n_goIn w b R _ (dn (n := n) (by omega))) rfl fun x1 => vcE "punct" "punct" true (by rfl') fun x2 => vc (cInT 735 (Z "-") false) [] (n_inT w b 735 _ _ (by rfl')) rfl fun x3 => vcE "punct" "punct" true (by rfl') fun x4 => vc (cInT 733 (Z "-") true) [] (n_inT w b 733 _ _ (by rfl')) rfl fun x5 => vcE "punct" "keyword" false (by rfl') fun x6 => vc (cTake R (cuA (n + 1) (tP k0 "-") (a.pY x1.2.2)) (tN k1 "b")) [5, 6, 7, 8] (h0 _ rfl rfl rfl) rfl fun x7 => vc (cGoIn R (cuA (n + 1) (tN k1 "b") (aY x7.2.2))) [7, 8] (n_goIn w b R _ (dn (n := (n + 1)) (by omega))) rfl fun x8 => vc (cUnN R ((cuA (n + 1 + 1) k1 ((aY x7.2.2).pY x8.2.2)).as sN (Z "b")) (tK k2 "in")) [7, 8, 9, 10, 0, 1] (n_un0 w b R _ _ _ hw (h1 _ rfl rfl rfl) (by rfl')) rfl fun x9 => vc (cGoOut' R (cuA (n + 1 + 1) (tK k2 "in") (aY x9.2.2)) (n + 1)) [12, 13] (n_goOut' w b R _ _ (dm (n + 1))) rfl fun x10 => vcE "-" "delete" false (by rfl') fun x11 => vc (cNode R.P (Z "Unary") k0.ln x10.1) [] (n_nodeP w b hw _ _ _) rfl fun x12 => vc (cPrio R (cuA (n + 1) (tK k2 "in") ((aY x9.2.2).pY x10.2.2)) true 7) [15, 16, 3, 4] (n_prioI_true w b R _ (by rfl') (n_word_true w b R _ _ (by rfl') (by rfl'))) rfl fun x13 => vcG 7 1 true rfl fun x14 => vc (cPrio R (cuA (n + 1) (tK k2 "in") ((aY x9.2.2).pY x10.2.2)) true 7) [15, 16, 3, 4] (n_prioI_true w b R _ (by rfl') (n_word_true w b R _ _ (by rfl') (by rfl'))) rfl fun x15 => vc (cTake R (cuA (n + 1) (tK k2 "in") ((aY x9.2.2).pY x10.2.2)) (tN k3 "c")) [15, 16, 17, 18] (h2 _ rfl rfl rfl) rfl fun x16 => vc (cUnN R ((cuA (n + 1) k3 (aY x16.2.2)).as sN (Z "c")) (tE k4)) [18, 19, 20, 21, 1, 2] (n_un0 w b R _ _ _ hw (h3 _ rfl rfl rfl) (by rfl')) rfl fun x17 => vc (cPrio R (cuA (n + 1) (tE k4) (aY x17.2.2)) true 0) [23, 24, 0, 1] (n_prioO_false w b R _ _ (by rfl') (n_word0 w b R _ _ (by rfl')) (n_word0 w b R _ _ (by rfl'))) rfl fun x18 => vcG 0 8 false rfl fun x19 => vc (cNode R.P (Z "Binary") k0.ln x18.1) [] (n_nodeP w b hw _ _ _) rfl fun x20 => vc (cPrio R (cuA (n + 1) (tE k4) (aY x17.2.2)) true 0) [26, 27, 3, 4] (n_prioO_false w b R _ _ (by rfl') (n_word0 w b R _ _ (by rfl')) (n_word0 w b R _ _ (by rfl'))) rfl fun x21 => vcG 0 1 false rfl fun x22 => vc (cEatN R (cuA (n + 1) (tE k4) (aY x17.2.2)) (Z "?")) [26, 27, 3, 4] (n_eatN w b R _ _ (n_sign0 w b R _ _ (by rfl'))) rfl fun x23 => vcE "end" "punct" false (by rfl') fun x24 => vc (cGoOut' R (cuA (n + 1) (tE k4) (aY x17.2.2)) n) [26, 27] (n_goOut' w b R _ _ (dm n)) rfl fun x25 => ve) fun f B T x1 x2 x3 x4 x5 x6 x7 x8 x9 x10 x11 x12 x13 x14 x15 x16 x17 x18 x19 x20 x21 x22 x23 x24 x25 => ⟨(natAt (yH ((aY x17.2.2).pY x25.2.2) ((x20.2.2 0) :: (x20.2.2 1) :: x18.1 :: (rn x20.2.2 2 6 [0, 0, 0, B])))), ((x18.1, listO [.str (Z "in") (x9.2.2 14), .ref (x12.2.2 0), .ref (x17.2.2 29)]) :: ((x12.2.2 0), inst 38 (x12.2.2 1)) :: ((x12.2.2 1), nodeO R.P (Z "Unary") k0.ln x10.1 (natAt (rn x12.2.2 2 4 [])) (natAt [(x12.2.2 6), (x12.2.2 7), 0, 0])) :: (x10.1, listO [.str (Z "-") (a.tv 1), .ref (x9.2.2 29)]) :: (nmO R.P "b" k1.ln x9.2.2 (nmO R.P "c" k3.ln x17.2.2 []))), [], by cases b <;> rfl', f1 fun h' hs hf m => nT (m 2 rfl) (m 3 rfl) (m 4 rfl) (.cons (.str _ _) (.cons (nT (m 5 rfl) (m 6 rfl) (m 7 rfl) (.cons (.str _ _) (.cons (nT (m 8 rfl) (m 9 rfl) (m 10 rfl) (.cons (.str _ _) .nil)) .nil))) (.cons (nT (m 11 rfl) (m 12 rfl) (m 13 rfl) (.cons (.str _ _) .nil)) .nil)))⟩
theorem op11f (w b) (R : Rd) (n : Int) (a : Ca) (k0 k1 k2 : Tk) (hw : R.P = w.params) (hn : n ≤ 20) (h0 : Nxt w b R (tP k0 "-") (tN k1 "b")) (h1 : Nxt w b R (tN k1 "b") (tK k2 "in")) : Nd w b (cAsT R (cuA n (tP k0 "-") a) (tK k2 "in") false (Z "Unary") k0.ln (.node (Z "Unary") [.str (Z "-"), .node (Z "Name") [.str (Z "b")]]) 160 1300) := nf [16, 18] [3, 4, 0, 1, 2, 5, 6, 7] 781 (Kk [Kjt,Kpm,Kon,Kdb,Kon,Kfb,Kdh,Kaj,Kis,Khg,Kha,134,Koa,Kai,Khd,Klp,Khe,Kaf,Kdr,Knh,Kqs,145,Kmr,129,Kcx,145,Kmr,18569,Kmr,137,Kbn,Kcn,Kfz,Kog,141,Kaf,0x23408d,Kkn,Kku,Kah,Kjh,Kaf,Keb,Kfd,144,Kah,Kke,144,Kod,Kfn,143,Kku,Kah,Kjh,Kaf,143]) (fun f B T => vc (cGoIn R (cuA n (tP k0 "-") a)) [1, 2] (n_goIn w b R _ (dn (n := n) (by omega))) rfl fun x1 => vcE "punct" "punct" true (by rfl') fun x2 => vc (cInT 735 (Z "-") false) [] (n_inT w b 735 _ _ (by rfl')) rfl fun x3 => vcE "punct" "punct" true (by rfl') fun x4 => vc (cInT 733 (Z "-") true) [] (n_inT w b 733 _ _ (by rfl')) rfl fun x5 => vcE "punct" "keyword" false (by rfl') fun x6 => vc (cTake R (cuA (n + 1) (tP k0 "-") (a.pY x1.2.2)) (tN k1 "b")) [5, 6, 7, 8] (h0 _ rfl rfl rfl) rfl fun x7 => vc (cGoIn R (cuA (n + 1) (tN k1 "b") (aY x7.2.2))) [7, 8] (n_goIn w b R _ (dn (n := (n + 1)) (by omega))) rfl fun x8 => vc (cUnN R ((cuA (n + 1 + 1) k1 ((aY x7.2.2).pY x8.2.2)).as sN (Z "b")) (tK k2 "in")) [7, 8, 9, 10, 0, 1] (n_un0 w b R _ _ _ hw (h1 _ rfl rfl rfl) (by rfl')) rfl fun x9 => vc (cGoOut' R (cuA (n + 1 + 1) (tK k2 "in") (aY x9.2.2)) (n + 1)) [12, 13] (n_goOut' w b R _ _ (dm (n + 1))) rfl fun x10 => vcE "-" "delete" false (by rfl') fun x11 => vc (cNode R.P (Z "Unary") k0.ln x10.1) [] (n_nodeP w b hw _ _ _) rfl fun x12 => vc (cPrio R (cuA (n + 1) (tK k2 "in") ((aY x9.2.2).pY x10.2.2)) false 0) [15, 16, 3, 4] (n_prioI_false w b R _ (by rfl') (n_word_true w b R _ _ (by rfl') (by rfl'))) rfl fun x13 => vcG 0 1 false rfl fun x14 => vc (cEatN R (cuA (n + 1) (tK k2 "in") ((aY x9.2.2).pY x10.2.2)) (Z "?")) [15, 16, 3, 4] (n_eatN w b R _ _ (n_sign0 w b R _ _ (by rfl'))) rfl fun x15 => vcE "keyword" "punct" false (by rfl') fun x16 => vc (cGoOut' R (cuA (n + 1) (tK k2 "in") ((aY x9.2.2).pY x10.2.2)) n) [15, 16] (n_goOut' w b R _ _ (dm n)) rfl fun x17 => ve) fun f B T x1 x2 x3 x4 x5 x6 x7 x8 x9 x10 x11 x12 x13 x14 x15 x16 x17 => ⟨(natAt (yH (((aY x9.2.2).pY x10.2.2).pY x17.2.2) ((x12.2.2 0) :: (x12.2.2 1) :: x10.1 :: (rn x12.2.2 2 6 [0, 0, 0, B])))), ((x10.1, listO [.str (Z "-") (a.tv 1), .ref (x9.2.2 29)]) :: (nmO R.P "b" k1.ln x9.2.2 [])), [], by cases b <;> rfl', f1 fun h' hs hf m => nT (m 2 rfl) (m 3 rfl) (m 4 rfl) (.cons (.str _ _) (.cons (nT (m 5 rfl) (m 6 rfl) (m 7 rfl) (.cons (.str _ _) .nil)) .nil))⟩
theorem lk0 (w b) {Dv Uv : Nat} (R : Rd) (n : Int) (a : Ca) (k0 k1 k2 k3 : Tk) (sg : Str) (can : Bool) (rk : Str) (rl : Nat) (TT : Tr) (hw : R.P = w.params) (hn : n ≤ 20) (hs : sg ∈ signsL) (h0 : Nxt w b R (tN k0 "x") (k1.as sP sg)) (h1 : Nxt w b R (k1.as sP sg) k2) (ha : ∀ a2 : Ca, NdV w b Dv Uv (cAsT R (cuA (n + 1) k2 a2) k3 can rk rl TT 160 1300)) : NdV w b (Dv + 20) (Uv + 100) (cAsT R (cuA n (tN k0 "x") a) k3 can (Z "Assign") k0.ln (.node (Z "Assign") [.str sg, .node (Z "Name") [.str (Z "x")], TT]) 160 1300) := nV 180 1400 [23, 25] [3, 4, 0, 1, 2, 16, 17, 18] 810 (Kk [Kpb,Kgm,Kgv,Kje,Kie,Kiz,Kie,Klw,Kkl,Kbx,Kaj,Kif,Kaf,Kcq,129,Kcq,Kac,Kcq,Khv,128,Kas,Knx,Kms,Kag,Kcj,Kch,Kak,Kch,Kch,141,Kig,Kaf,Kfk,Kdp,143,Kdp,Kcf,Kfd,143,Kog,143,Krb,19222,Ker,Kde,Kde,Kqz,Kaf,150]) (fun f B T => vm (cGoIn R (cuA n (tN k0 "x") a)) [1, 2] (n_goIn w b R _ (dn (n := n) (by omega))) rfl fun x1 => vm (cUnN R ((cuA (n + 1) k0 (a.pY x1.2.2)).as sN (Z "x")) (k1.as sP sg)) [3, 4, 5, 6, 7, 8] (n_un1 w b R _ _ _ hw (h0 _ rfl rfl rfl) (by rfl') (sg_ne hs _ (by rfl')) (sg_ne hs _ (by rfl')) (sg_ne hs _ (by rfl')) (sg735 hs)) rfl fun x2 => vm (cPrio R (cuA (n + 1) (k1.as sP sg) (aY x2.2.2)) can 0) [8, 9, 0, 1] (n_prioSg w b R _ _ (by rfl') hs) rfl fun x3 => vmG 0 1 false rfl fun x4 => vm (cEatN R (cuA (n + 1) (k1.as sP sg) (aY x2.2.2)) (Z "?")) [8, 9, 0, 1] (n_eatN w b R _ _ (n_sign1 w b R _ _ false (by rfl') (sg_ne hs _ (by rfl')))) rfl fun x5 => vmE "punct" "punct" true (by rfl') fun x6 => vm (cInT 732 sg true) [] (n_inT w b 732 _ _ (sg732 hs)) rfl fun x7 => vmE "Name" "Name" true (by rfl') fun x8 => vm (cInT 512 (Z "Name") true) [] (n_inT w b 512 _ _ (by rfl')) rfl fun x9 => vmE "Name" "Name" true (by rfl') fun x10 => vm (cTake R (cuA (n + 1) (k1.as sP sg) (aY x2.2.2)) k2) [13, 14, 15, 16] (h1 _ rfl rfl rfl) rfl fun x11 => vb (cAsT R (cuA (n + 1) k2 (aY x11.2.2)) k3 can rk rl TT 160 1300) [15, 16, 17, 18, 0, 1] (ha _) rfl fun x12 => vm (cNode R.P (Z "Assign") k0.ln x12.1) [] (n_nodeP w b hw _ _ _) rfl fun x13 => vm (cGoOut' R (cuA (n + 1) k3 (aY x12.2.2)) n) [22, 23] (n_goOut' w b R _ _ (dm n)) rfl fun x14 => ve) fun f B T x1 x2 x3 x4 x5 x6 x7 x8 x9 x10 x11 x12 x13 x14 => ⟨(natAt (yH ((aY x12.2.2).pY x14.2.2) ((x13.2.2 0) :: (x13.2.2 1) :: x12.1 :: (rn x13.2.2 2 6 [0, 0, 0, B])))), ((x12.1, listO [.str sg (x2.2.2 14), .ref (x2.2.2 29), .ref (x12.2.2 29)]) :: (nmO R.P "x" k0.ln x2.2.2 [])), [treeF R.P (x12.2.2 41) x12.1 (.ref (x12.2.2 29)) TT], by cases b <;> rfl', f1 fun h' hs hf m => nT (m 2 rfl) (m 3 rfl) (m 4 rfl) (.cons (.str _ _) (.cons (nT (m 5 rfl) (m 6 rfl) (m 7 rfl) (.cons (.str _ _) .nil)) (.cons (IsTree.mono (hf _ (List.mem_of_getElem? (i := 0) rfl)).2.2.1 (hf _ (List.mem_of_getElem? (i := 0) rfl)).2.2.2 (fun _ _ _ _ e => e) (hf _ (List.mem_of_getElem? (i := 0) rfl)).1) .nil)))⟩
theorem lk1 (w b) {Dv Uv : Nat} (R : Rd) (n : Int) (a : Ca) (k0 k1 k2 k3 k4 k5 : Tk) (sg : Str) (can : Bool) (rk : Str) (rl : Nat) (TT : Tr) (hw : R.P = w.params) (hn : n ≤ 20) (hs : sg ∈ signsL) (h0 : Nxt w b R (tN k0 "x") (tP k1 ".")) (h1 : Nxt w b R (tP k1 ".") (tN k2 "y")) (h2 : Nxt w b R (tN k2 "y") (k3.as sP sg)) (h3 : Nxt w b R (k3.as sP sg) k4) (ha : ∀ a2 : Ca, NdV w b Dv Uv (cAsT R (cuA (n + 1) k4 a2) k5 can rk rl TT 160 1300)) : NdV w b (Dv + 20) (Uv + 100) (cAsT R (cuA n (tN k0 "x") a) k5 can (Z "Assign") k0.ln (.node (Z "Assign") [.str sg, .node (Z "Member") [.node (Z "Name") [.str (Z "x")], .str (Z "y")], TT]) 160 1300) := nV 180 1400 [38, 40] [3, 4, 0, 1, 2, 12, 13, 14, 22, 23, 24] 1888 (Kk [Kjt,Kpm,Kon,Kaq,Kdh,Ken,Kis,Kkg,129,Kfj,Kah,Kls,Kak,Kht,Kaw,Kqq,Kae,140,Kkz,129,Kjy,Kkz,Klk,Klo,Kew,Kak,Kgv,Kaf,Kie,Kew,Kaf,Kgl,Kax,128,Kbk,Kaj,Knr,Knf,Khw,Kmr,Knc,Kkx,Kak,Kkx,Keh,Klv,Kaf,Kai,Kcq,Kal,Kjm,Kaw,148,Kah,Kez,148,Kqc,Kbr,Kbm,Kjd,Kaf,Kdn,Kos,Kbf,Kbs,Kqj,Kah,Knz,Krc,Kqj,Kah,Knz,Krc,Kjr,Klu,Kqj,Kah,Knz,Kaf,Kgk,0x268a95,Kah,Kli,Kqd,Kfn,19733,Kah,Kli,Kqd,Knb,0x97005cb95,Kqj,Kab,Knz,151,Kaf,16535,Kgz,19480,Kqj,Kah,Knz,Kaf,152,Khp,Kin,Kah,Kli,Kqd,Kfn,Kin,Kah,Kli,Kqd,Knb,Kin,Kgo,Kgo,Kab,Knz,153,Kch,Kpu,Kjq,Kah,Krm,Kaf,Kqo,155,Kah,Kpu,155,Kqb,Kms,Kag,Kae,Kch,Kgr,Kea,Kea,Kah,Khz,Kaf,Kdh,20224,Krk,158,Kfa,20254,Kev,Kds,Kds,Kab,Kho,158,Krb,0x14c952a5,Kmq,Kmq,Kah,21414,Kaf,165]) (fun f B T => vm (cGoIn R (cuA n (tN k0 "x") a)) [1, 2] (n_goIn w b R _ (dn (n := n) (by omega))) rfl fun x1 => vmE "name" "punct" false (by rfl') fun x2 => vmE "name" "punct" false (by rfl') fun x3 => vmE "name" "keyword" false (by rfl') fun x4 => vm (cWord R (cuA (n + 1) (tN k0 "x") (a.pY x1.2.2)) (Z "new") false) [6, 7, 10, 11] (n_word0 w b R _ _ (by rfl')) rfl fun x5 => vmE "name" "name" true (by rfl') fun x6 => vm (cStrNe (Z "name") (Z "name") false) [] (n_str_ne w b _ _ _ (by rfl')) rfl fun x7 => vm (cTake R (cuA (n + 1) (tN k0 "x") (a.pY x1.2.2)) (tP k1 ".")) [10, 11, 12, 13] (h0 _ rfl rfl rfl) rfl fun x8 => vm (cNode R.P (Z "Name") k0.ln x8.1) [] (n_nodeP w b hw _ _ _) rfl fun x9 => vm (cSign R (cuA (n + 1) (tP k1 ".") (aY x8.2.2)) (Z ".") true) [16, 17, 4, 5] (n_sign1 w b R _ _ true (by rfl') (by rfl')) rfl fun x10 => vm (cTake R (cuA (n + 1) (tP k1 ".") (aY x8.2.2)) (tN k2 "y")) [16, 17, 18, 19] (h1 _ rfl rfl rfl) rfl fun x11 => vmE "." "." true (by rfl') fun x12 => vm (cInTs (x11.1 + 1) [.str (Z "name") (x12.2.1 + 5), .str (Z "keyword") (x12.2.1 + 6)] (Z "name") true) [0] (n_inTs w b _ _ _ _ (by rfl') (by rfl')) rfl fun x13 => vm (cTake R (cuA (n + 1) (tN k2 "y") (aY x11.2.2)) (k3.as sP sg)) [20, 21, 22, 23] (h2 _ rfl rfl rfl) rfl fun x14 => vm (cNode R.P (Z "Member") k0.ln x14.1) [] (n_nodeP w b hw _ _ _) rfl fun x15 => vm (cSign R (cuA (n + 1) (k3.as sP sg) (aY x14.2.2)) (Z ".") false) [25, 26, 3, 4] (n_sign1 w b R _ _ false (by rfl') (sg_ne hs _ (by rfl'))) rfl fun x16 => vm (cSign R (cuA (n + 1) (k3.as sP sg) (aY x14.2.2)) (Z "[") false) [25, 26, 3, 4] (n_sign1 w b R _ _ false (by rfl') (sg_ne hs _ (by rfl'))) rfl fun x17 => vm (cSign R (cuA (n + 1) (k3.as sP sg) (aY x14.2.2)) (Z "(") false) [25, 26, 3, 4] (n_sign1 w b R _ _ false (by rfl') (sg_ne hs _ (by rfl'))) rfl fun x18 => vm (cStrNe (Z "punct") (Z "punct") false) [] (n_str_ne w b _ _ _ (by rfl')) rfl fun x19 => vm (cInT 735 sg false) [] (n_inT w b 735 _ _ (sg735 hs)) rfl fun x20 => vm (cPrio R (cuA (n + 1) (k3.as sP sg) (aY x14.2.2)) can 0) [25, 26, 3, 4] (n_prioSg w b R _ _ (by rfl') hs) rfl fun x21 => vmG 0 1 false rfl fun x22 => vm (cEatN R (cuA (n + 1) (k3.as sP sg) (aY x14.2.2)) (Z "?")) [25, 26, 3, 4] (n_eatN w b R _ _ (n_sign1 w b R _ _ false (by rfl') (sg_ne hs _ (by rfl')))) rfl fun x23 => vmE "punct" "punct" true (by rfl') fun x24 => vm (cInT 732 sg true) [] (n_inT w b 732 _ _ (sg732 hs)) rfl fun x25 => vmE "Member" "Name" false (by rfl') fun x26 => vm (cInT 512 (Z "Member") true) [] (n_inT w b 512 _ _ (by rfl')) rfl fun x27 => vmE "Member" "Name" false (by rfl') fun x28 => vm (cTake R (cuA (n + 1) (k3.as sP sg) (aY x14.2.2)) k4) [28, 29, 30, 31] (h3 _ rfl rfl rfl) rfl fun x29 => vb (cAsT R (cuA (n + 1) k4 (aY x29.2.2)) k5 can rk rl TT 160 1300) [30, 31, 32, 33, 0, 1] (ha _) rfl fun x30 => vm (cNode R.P (Z "Assign") k0.ln x30.1) [] (n_nodeP w b hw _ _ _) rfl fun x31 => vm (cGoOut' R (cuA (n + 1) k5 (aY x30.2.2)) n) [37, 38] (n_goOut' w b R _ _ (dm n)) rfl fun x32 => ve) fun f B T x1 x2 x3 x4 x5 x6 x7 x8 x9 x10 x11 x12 x13 x14 x15 x16 x17 x18 x19 x20 x21 x22 x23 x24 x25 x26 x27 x28 x29 x30 x31 x32 => ⟨(natAt (yH ((aY x30.2.2).pY x32.2.2) ((x31.2.2 0) :: (x31.2.2 1) :: x30.1 :: (rn x31.2.2 2 6 [0, 0, 0, B])))), [(x30.1, listO [.str sg (x14.2.2 14), .ref (x15.2.2 0), .ref (x30.2.2 29)]), ((x15.2.2 0), inst 38 (x15.2.2 1)), ((x15.2.2 1), nodeO R.P (Z "Member") k0.ln x14.1 (natAt (rn x15.2.2 2 4 [])) (natAt [(x15.2.2 6), (x15.2.2 7), 0, 0])), (x14.1, listO [.ref (x9.2.2 0), .str (Z "y") (x11.2.2 14)]), ((x9.2.2 0), inst 38 (x9.2.2 1)), ((x9.2.2 1), nodeO R.P (Z "Name") k0.ln x8.1 (natAt (rn x9.2.2 2 4 [])) (natAt [(x9.2.2 6), (x9.2.2 7), 0, 0])), (x8.1, listO [.str (Z "x") (a.tv 1)])], [treeF R.P (x30.2.2 41) x30.1 (.ref (x30.2.2 29)) TT], by cases b <;> rfl', f1 fun h' hs hf m => nT (m 2 rfl) (m 3 rfl) (m 4 rfl) (.cons (.str _ _) (.cons (nT (m 5 rfl) (m 6 rfl) (m 7 rfl) (.cons (nT (m 8 rfl) (m 9 rfl) (m 10 rfl) (.cons (.str _ _) .nil)) (.cons (.str _ _) .nil))) (.cons (IsTree.mono (hf _ (List.mem_of_getElem? (i := 0) rfl)).2.2.1 (hf _ (List.mem_of_getElem? (i := 0) rfl)).2.2.2 (fun _ _ _ _ e => e) (hf _ (List.mem_of_getElem? (i := 0) rfl)).1) .nil)))⟩
theorem lk2 (w b) {Dv Uv : Nat} (R : Rd) (n : Int) (a : Ca) (k0 k1 k2 k3 k4 k5 k6 : Tk) (sg : Str) (can : Bool) (rk : Str) (rl : Nat) (TT : Tr) (hw : R.P = w.params) (hn : n ≤ 20) (hs : sg ∈ signsL) (h0 : Nxt w b R (tN k0 "x") (tP k1 "[")) (h1 : Nxt w b R (tP k1 "[") (tN k2 "y")) (h2 : Nxt w b R (tN k2 "y") (tP k3 "]")) (h3 : Nxt w b R (tP k3 "]") (k4.as sP sg)) (h4 : Nxt w b R (k4.as sP sg) k5) (ha : ∀ a2 : Ca, NdV w b Dv Uv (cAsT R (cuA (n + 1) k5 a2) k6 can rk rl TT 160 1300)) : NdV w b (Dv + 20) (Uv + 100) (cAsT R (cuA n (tN k0 "x") a) k6 can (Z "Assign") k0.ln (.node (Z "Assign") [.str sg, .node (Z "Index") [.node (Z "Name") [.str (Z "x")], .node (Z "Name") [.str (Z "y")]], TT]) 160 1300) := nV 180 1400 [45, 47] [3, 4, 0, 1, 2, 12, 13, 14, 29, 30, 31, 19, 20, 21] 2326 (Kk [Kjt,Kpm,Kon,Kaq,Kdh,Ken,Kis,Kkg,129,Kfj,Kah,Kls,Kak,Kht,Kaw,Kqq,Kae,140,Kkz,129,Kjy,Kkz,Klk,Klo,Kew,Kak,Kgv,Kaf,Kie,Kew,Kaf,Kgl,Kax,128,Kbk,Kaj,Knr,Knf,Khw,Kmr,Knc,Kkx,Kak,Kkx,Kak,Kkx,Keh,Klv,Klp,Kmj,Kch,Kme,Kbu,Kjd,Kak,Kmk,Kbu,Kky,Kcp,Kkw,Kdy,Knd,Kgm,Kqn,Kje,156,Kah,Kgi,156,Kqa,Kiz,156,Kah,Kgi,156,Kqa,Klw,Kqn,Kqs,Kqn,Kjz,Kqr,Kqn,Kaf,Kcc,Kql,Kcu,Kbn,Keq,18560,Koh,Kah,Klh,Khw,Koh,Kah,Klh,Khw,0x13600d9b,Koh,Kah,Klh,Kaf,155,Kmw,20636,Kah,Kkp,0x288021,Kfn,20636,Kah,Kkp,0x288021,Knb,20252,Krk,158,Koh,Kab,Klh,158,Kaf,16542,Kev,20383,Koh,Kah,Klh,Kaf,Kho,160,Kgq,Kah,Kkp,0x288021,Kfn,Kgq,Kah,Kkp,0x288021,Knb,Kgq,Kfr,Kfr,Kab,Klh,160,Kch,Kqf,Kah,Kpt,Kaf,Kqo,162,Kah,Kmv,0x28c022,Kms,Kag,Kae,Kch,163,Koi,Kah,Kou,Kaf,Kdh,Krr,165,Krr,Kfa,0x14c952a5,Kmq,Kmq,Kab,0x2953a6,Krb,22060,Krg,Kad,173,Kad,173,Kah,22317,Kaf,172]) (fun f B T => vm (cGoIn R (cuA n (tN k0 "x") a)) [1, 2] (n_goIn w b R _ (dn (n := n) (by omega))) rfl fun x1 => vmE "name" "punct" false (by rfl') fun x2 => vmE "name" "punct" false (by rfl') fun x3 => vmE "name" "keyword" false (by rfl') fun x4 => vm (cWord R (cuA (n + 1) (tN k0 "x") (a.pY x1.2.2)) (Z "new") false) [6, 7, 10, 11] (n_word0 w b R _ _ (by rfl')) rfl fun x5 => vmE "name" "name" true (by rfl') fun x6 => vm (cStrNe (Z "name") (Z "name") false) [] (n_str_ne w b _ _ _ (by rfl')) rfl fun x7 => vm (cTake R (cuA (n + 1) (tN k0 "x") (a.pY x1.2.2)) (tP k1 "[")) [10, 11, 12, 13] (h0 _ rfl rfl rfl) rfl fun x8 => vm (cNode R.P (Z "Name") k0.ln x8.1) [] (n_nodeP w b hw _ _ _) rfl fun x9 => vm (cSign R (cuA (n + 1) (tP k1 "[") (aY x8.2.2)) (Z ".") false) [16, 17, 4, 5] (n_sign1 w b R _ _ false (by rfl') (by rfl')) rfl fun x10 => vm (cSign R (cuA (n + 1) (tP k1 "[") (aY x8.2.2)) (Z "[") true) [16, 17, 4, 5] (n_sign1 w b R _ _ true (by rfl') (by rfl')) rfl fun x11 => vm (cTake R (cuA (n + 1) (tP k1 "[") (aY x8.2.2)) (tN k2 "y")) [16, 17, 18, 19] (h1 _ rfl rfl rfl) rfl fun x12 => vmE "[" "." false (by rfl') fun x13 => vm (cGoIn R (cuA (n + 1) (tN k2 "y") (aY x12.2.2))) [20, 21] (n_goIn w b R _ (dn (n := (n + 1)) (by omega))) rfl fun x14 => vm (cUnN R ((cuA (n + 1 + 1) k2 ((aY x12.2.2).pY x14.2.2)).as sN (Z "y")) (tP k3 "]")) [22, 23, 24, 25, 4, 5] (n_un1 w b R _ _ _ hw (h2 _ rfl rfl rfl) (by rfl') (by rfl') (by rfl') (by rfl') (by rfl')) rfl fun x15 => vm (cPrio R (cuA (n + 1 + 1) (tP k3 "]") (aY x15.2.2)) true 0) [27, 28, 0, 1] (n_prioP w b R _ _ 0 (by rfl') (by rfl')) rfl fun x16 => vmG 0 1 false rfl fun x17 => vm (cEatN R (cuA (n + 1 + 1) (tP k3 "]") (aY x15.2.2)) (Z "?")) [27, 28, 0, 1] (n_eatN w b R _ _ (n_sign1 w b R _ _ false (by rfl') (by rfl'))) rfl fun x18 => vmE "punct" "punct" true (by rfl') fun x19 => vm (cInT 732 (Z "]") false) [] (n_inT w b 732 _ _ (by rfl')) rfl fun x20 => vm (cGoOut' R (cuA (n + 1 + 1) (tP k3 "]") (aY x15.2.2)) (n + 1)) [27, 28] (n_goOut' w b R _ _ (dm (n + 1))) rfl fun x21 => vm (cSign R (cuA (n + 1) (tP k3 "]") ((aY x15.2.2).pY x21.2.2)) (Z ",") false) [27, 28, 0, 1] (n_sign1 w b R _ _ false (by rfl') (by rfl')) rfl fun x22 => vm (cNeed R (cuA (n + 1) (tP k3 "]") ((aY x15.2.2).pY x21.2.2)) (Z "]") (k4.as sP sg)) [27, 28, 29, 30, 0, 1] (n_need w b R _ _ _ (n_eatY w b R _ _ _ (n_sign1 w b R _ _ true (by rfl') (by rfl')) (h3 _ rfl rfl rfl))) rfl fun x23 => vm (cNode R.P (Z "Index") k0.ln x23.1) [] (n_nodeP w b hw _ _ _) rfl fun x24 => vm (cSign R (cuA (n + 1) (k4.as sP sg) (aY x23.2.2)) (Z ".") false) [32, 33, 3, 4] (n_sign1 w b R _ _ false (by rfl') (sg_ne hs _ (by rfl'))) rfl fun x25 => vm (cSign R (cuA (n + 1) (k4.as sP sg) (aY x23.2.2)) (Z "[") false) [32, 33, 3, 4] (n_sign1 w b R _ _ false (by rfl') (sg_ne hs _ (by rfl'))) rfl fun x26 => vm (cSign R (cuA (n + 1) (k4.as sP sg) (aY x23.2.2)) (Z "(") false) [32, 33, 3, 4] (n_sign1 w b R _ _ false (by rfl') (sg_ne hs _ (by rfl'))) rfl fun x27 => vm (cStrNe (Z "punct") (Z "punct") false) [] (n_str_ne w b _ _ _ (by rfl')) rfl fun x28 => vm (cInT 735 sg false) [] (n_inT w b 735 _ _ (sg735 hs)) rfl fun x29 => vm (cPrio R (cuA (n + 1) (k4.as sP sg) (aY x23.2.2)) can 0) [32, 33, 3, 4] (n_prioSg w b R _ _ (by rfl') hs) rfl fun x30 => vmG 0 1 false rfl fun x31 => vm (cEatN R (cuA (n + 1) (k4.as sP sg) (aY x23.2.2)) (Z "?")) [32, 33, 3, 4] (n_eatN w b R _ _ (n_sign1 w b R _ _ false (by rfl') (sg_ne hs _ (by rfl')))) rfl fun x32 => vmE "punct" "punct" true (by rfl') fun x33 => vm (cInT 732 sg true) [] (n_inT w b 732 _ _ (sg732 hs)) rfl fun x34 => vmE "Index" "Name" false (by rfl') fun x35 => vm (cInT 512 (Z "Index") true) [] (n_inT w b 512 _ _ (by rfl')) rfl fun x36 => vmE "Index" "Name" false (by rfl') fun x37 => vm (cTake R (cuA (n + 1) (k4.as sP sg) (aY x23.2.2)) k5) [35, 36, 37, 38] (h4 _ rfl rfl rfl) rfl fun x38 => vb (cAsT R (cuA (n + 1) k5 (aY x38.2.2)) k6 can rk rl TT 160 1300) [37, 38, 39, 40, 0, 1] (ha _) rfl fun x39 => vm (cNode R.P (Z "Assign") k0.ln x39.1) [] (n_nodeP w b hw _ _ _) rfl fun x40 => vm (cGoOut' R (cuA (n + 1) k6 (aY x39.2.2)) n) [44, 45] (n_goOut' w b R _ _ (dm n)) rfl fun x41 => ve) fun f B T x1 x2 x3 x4 x5 x6 x7 x8 x9 x10 x11 x12 x13 x14 x15 x16 x17 x18 x19 x20 x21 x22 x23 x24 x25 x26 x27 x28 x29 x30 x31 x32 x33 x34 x35 x36 x37 x38 x39 x40 x41 => ⟨(natAt (yH ((aY x39.2.2).pY x41.2.2) ((x40.2.2 0) :: (x40.2.2 1) :: x39.1 :: (rn x40.2.2 2 6 [0, 0, 0, B])))), ((x39.1, listO [.str sg (x23.2.2 14), .ref (x24.2.2 0), .ref (x39.2.2 29)]) :: ((x24.2.2 0), inst 38 (x24.2.2 1)) :: ((x24.2.2 1), nodeO R.P (Z "Index") k0.ln x23.1 (natAt (rn x24.2.2 2 4 [])) (natAt [(x24.2.2 6), (x24.2.2 7), 0, 0])) :: (x23.1, listO [.ref (x9.2.2 0), .ref (x15.2.2 29)]) :: ((x9.2.2 0), inst 38 (x9.2.2 1)) :: ((x9.2.2 1), nodeO R.P (Z "Name") k0.ln x8.1 (natAt (rn x9.2.2 2 4 [])) (natAt [(x9.2.2 6), (x9.2.2 7), 0, 0])) :: (x8.1, listO [.str (Z "x") (a.tv 1)]) :: (nmO R.P "y" k2.ln x15.2.2 [])), [treeF R.P (x39.2.2 41) x39.1 (.ref (x39.2.2 29)) TT], by cases b <;> rfl', f1 fun h' hs hf m => nT (m 2 rfl) (m 3 rfl) (m 4 rfl) (.cons (.str _ _) (.cons (nT (m 5 rfl) (m 6 rfl) (m 7 rfl) (.cons (nT (m 8 rfl) (m 9 rfl) (m 10 rfl) (.cons (.str _ _) .nil)) (.cons (nT (m 11 rfl) (m 12 rfl) (m 13 rfl) (.cons (.str _ _) .nil)) .nil))) (.cons (IsTree.mono (hf _ (List.mem_of_getElem? (i := 0) rfl)).2.2.1 (hf _ (List.mem_of_getElem? (i := 0) rfl)).2.2.2 (fun _ _ _ _ e => e) (hf _ (List.mem_of_getElem? (i := 0) rfl)).1) .nil)))⟩
theorem ex0e (w b) {Dv Uv : Nat} (R : Rd) (n : Int) (a : Ca) (k0 k1 : Tk) (can : Bool) (rk : Str) (rl : Nat) (TT : Tr) (hw : R.P = w.params) (hn : n ≤ 20)  (ha : ∀ a2 : Ca, NdV w b Dv Uv (cAsT R (cuA n k0 a2) (tE k1) can rk rl TT 160 1300)) : NdV w b (Dv + 0) (Uv + 0) (cEx R (cuA n k0 a) (tE k1) can (TT) 200 1600) := nV 200 1600 [6, 8] [0, 1] 88 (Kk [Khl,Kdd,129,Kaf,Kek,Khg,Kha,134,Koa,133]) (fun f B T => vb (cAsT R (cuA n k0 a) (tE k1) can rk rl TT 160 1300) [1, 2, 3, 4, 5, 6] (ha _) rfl fun x1 => vm (cSign R (cuA n (tE k1) (aY x1.2.2)) (Z ",") false) [5, 6, 0, 1] (n_sign0 w b R _ _ (by rfl')) rfl fun x2 => ve) fun f B T x1 x2 => ⟨(natAt (yH (aY x1.2.2) [(x1.2.2 29), 0, 0, 0, 0, 0, 0, 0, 0, 0, 0, 0, B])), [], [treeF R.P (x1.2.2 41) x1.1 (.ref (x1.2.2 29)) TT], by cases b <;> rfl', f1 fun h' hs hf m => IsTree.mono (hf _ (List.mem_of_getElem? (i := 0) rfl)).2.2.1 (hf _ (List.mem_of_getElem? (i := 0) rfl)).2.2.2 (fun _ _ _ _ e => e) (hf _ (List.mem_of_getElem? (i := 0) rfl)).1⟩
theorem ex0i (w b) {Dv Uv : Nat} (R : Rd) (n : Int) (a : Ca) (k0 k1 : Tk) (can : Bool) (rk : Str) (rl : Nat) (TT : Tr) (hw : R.P = w.params) (hn : n ≤ 20)  (ha : ∀ a2 : Ca, NdV w b Dv Uv (cAsT R (cuA n k0 a2) (tK k1 "in") can rk rl TT 160 1300)) : NdV w b (Dv + 0) (Uv + 0) (cEx R (cuA n k0 a) (tK k1 "in") can (TT) 200 1600) := nV 200 1600 [6, 8] [0, 1] 88 (Kk [Khl,Kdd,129,Kaf,Kek,Khg,Kha,134,Koa,133]) (fun f B T => vb (cAsT R (cuA n k0 a) (tK k1 "in") can rk rl TT 160 1300) [1, 2, 3, 4, 5, 6] (ha _) rfl fun x1 => vm (cSign R (cuA n (tK k1 "in") (aY x1.2.2)) (Z ",") false) [5, 6, 0, 1] (n_sign0 w b R _ _ (by rfl')) rfl fun x2 => ve) fun f B T x1 x2 => ⟨(natAt (yH (aY x1.2.2) [(x1.2.2 29), 0, 0, 0, 0, 0, 0, 0, 0, 0, 0, 0, B])), [], [treeF R.P (x1.2.2 41) x1.1 (.ref (x1.2.2 29)) TT], by cases b <;> rfl', f1 fun h' hs hf m => IsTree.mono (hf _ (List.mem_of_getElem? (i := 0) rfl)).2.2.1 (hf _ (List.mem_of_getElem? (i := 0) rfl)).2.2.2 (fun _ _ _ _ e => e) (hf _ (List.mem_of_getElem? (i := 0) rfl)).1⟩
theorem ex1e (w b) {Dv Uv : Nat} (R : Rd) (n : Int) (a : Ca) (k0 k1 k2 k3 : Tk) (can : Bool) (rk : Str) (rl : Nat) (TT : Tr) (hw : R.P = w.params) (hn : n ≤ 20) (h0 : Nxt w b R (tN k0 "z") (tP k1 ",")) (h1 : Nxt w b R (tP k1 ",") k2) (ha : ∀ a2 : Ca, NdV w b Dv Uv (cAsT R (cuA n k2 a2) (tE k3) can rk rl TT 160 1300)) : NdV w b (Dv + 0) (Uv + 0) (cEx R (cuA n (tN k0 "z") a) (tE k3) can (.node (Z "Comma") [.lst [.node (Z "Name") [.str (Z "z")], TT]]) 200 1600) := nV 200 1600 [20, 22] [3, 4, 0, 1, 2, 9, 12, 13, 14] 634 (Kk [Khl,Kdd,Kbu,131,Kbe,Kbe,Kil,132,Kak,Kee,Kbu,Ked,Kcp,Kga,Kci,Kdj,Knn,Kgm,Kif,Kje,Kgw,Kiz,Kgw,Klw,Kif,Kqs,Kif,Kjz,Kbf,Kbs,Knf,Kjy,Kal,Kal,140,Kmd,140,Kaf,128,Kgn,Kic,Kkx,Kaf,Kic,Kcf,144,Kbn]) (fun f B T => vm (cGoIn R (cuA n (tN k0 "z") a)) [2, 3] (n_goIn w b R _ (dn (n := n) (by omega))) rfl fun x1 => vm (cUnN R ((cuA (n + 1) k0 (a.pY x1.2.2)).as sN (Z "z")) (tP k1 ",")) [4, 5, 6, 7, 8, 9] (n_un1 w b R _ _ _ hw (h0 _ rfl rfl rfl) (by rfl') (by rfl') (by rfl') (by rfl') (by rfl')) rfl fun x2 => vm (cPrio R (cuA (n + 1) (tP k1 ",") (aY x2.2.2)) can 0) [9, 10, 0, 1] (n_prioP w b R _ _ 0 (by rfl') (by rfl')) rfl fun x3 => vmG 0 1 false rfl fun x4 => vm (cEatN R (cuA (n + 1) (tP k1 ",") (aY x2.2.2)) (Z "?")) [9, 10, 0, 1] (n_eatN w b R _ _ (n_sign1 w b R _ _ false (by rfl') (by rfl'))) rfl fun x5 => vmE "punct" "punct" true (by rfl') fun x6 => vm (cInT 732 (Z ",") false) [] (n_inT w b 732 _ _ (by rfl')) rfl fun x7 => vm (cGoOut' R (cuA (n + 1) (tP k1 ",") (aY x2.2.2)) n) [9, 10] (n_goOut' w b R _ _ (dm n)) rfl fun x8 => vm (cSign R (cuA n (tP k1 ",") ((aY x2.2.2).pY x8.2.2)) (Z ",") true) [9, 10, 0, 1] (n_sign1 w b R _ _ true (by rfl') (by rfl')) rfl fun x9 => vm (cEatY R (cuA n (tP k1 ",") ((aY x2.2.2).pY x8.2.2)) (Z ",") k2) [10, 11, 12, 13, 1, 2] (n_eatY w b R _ _ _ (n_sign1 w b R _ _ true (by rfl') (by rfl')) (h1 _ rfl rfl rfl)) rfl fun x10 => vb (cAsT R (cuA n k2 (aY x10.2.2)) (tE k3) can rk rl TT 160 1300) [12, 13, 14, 15, 0, 1] (ha _) rfl fun x11 => vm (cEatN R (cuA n (tE k3) (aY x11.2.2)) (Z ",")) [16, 17, 0, 1] (n_eatN w b R _ _ (n_sign0 w b R _ _ (by rfl'))) rfl fun x12 => vm (cNode R.P (Z "Comma") k0.ln x12.1) [] (n_nodeP w b hw _ _ _) rfl fun x13 => ve) fun f B T x1 x2 x3 x4 x5 x6 x7 x8 x9 x10 x11 x12 x13 => ⟨(natAt (yH (aY x11.2.2) [(x13.2.2 0), 0, 0, 0, 0, 0, 0, 0, 0, 0, 0, 0, B])), (((x13.2.2 0), inst 38 (x13.2.2 1)) :: ((x13.2.2 1), nodeO R.P (Z "Comma") k0.ln x12.1 (natAt (rn x13.2.2 2 4 [])) (natAt [(x13.2.2 6), (x13.2.2 7), 0, 0])) :: (x12.1, listO [.ref x9.1]) :: (x9.1, listN [.ref (x2.2.2 29), .ref (x11.2.2 29)] 1) :: (nmO R.P "z" k0.ln x2.2.2 [])), [treeF R.P (x11.2.2 41) x11.1 (.ref (x11.2.2 29)) TT], by cases b <;> rfl', f1 fun h' hs hf m => nT (m 2 rfl) (m 3 rfl) (m 4 rfl) (.cons (lT (m 5 rfl) (.cons (nT (m 6 rfl) (m 7 rfl) (m 8 rfl) (.cons (.str _ _) .nil)) (.cons (IsTree.mono (hf _ (List.mem_of_getElem? (i := 0) rfl)).2.2.1 (hf _ (List.mem_of_getElem? (i := 0) rfl)).2.2.2 (fun _ _ _ _ e => e) (hf _ (List.mem_of_getElem? (i := 0) rfl)).1) .nil))) .nil)⟩
theorem ex1i (w b) {Dv Uv : Nat} (R : Rd) (n : Int) (a : Ca) (k0 k1 k2 k3 : Tk) (can : Bool) (rk : Str) (rl : Nat) (TT : Tr) (hw : R.P = w.params) (hn : n ≤ 20) (h0 : Nxt w b R (tN k0 "z") (tP k1 ",")) (h1 : Nxt w b R (tP k1 ",") k2) (ha : ∀ a2 : Ca, NdV w b Dv Uv (cAsT R (cuA n k2 a2) (tK k3 "in") can rk rl TT 160 1300)) : NdV w b (Dv + 0) (Uv + 0) (cEx R (cuA n (tN k0 "z") a) (tK k3 "in") can (.node (Z "Comma") [.lst [.node (Z "Name") [.str (Z "z")], TT]]) 200 1600) := nV 200 1600 [20, 22] [3, 4, 0, 1, 2, 9, 12, 13, 14] 634 (Kk [Khl,Kdd,Kbu,131,Kbe,Kbe,Kil,132,Kak,Kee,Kbu,Ked,Kcp,Kga,Kci,Kdj,Knn,Kgm,Kif,Kje,Kgw,Kiz,Kgw,Klw,Kif,Kqs,Kif,Kjz,Kbf,Kbs,Knf,Kjy,Kal,Kal,140,Kmd,140,Kaf,128,Kgn,Kic,Kkx,Kaf,Kic,Kcf,144,Kbn]) (fun f B T => vm (cGoIn R (cuA n (tN k0 "z") a)) [2, 3] (n_goIn w b R _ (dn (n := n) (by omega))) rfl fun x1 => vm (cUnN R ((cuA (n + 1) k0 (a.pY x1.2.2)).as sN (Z "z")) (tP k1 ",")) [4, 5, 6, 7, 8, 9] (n_un1 w b R _ _ _ hw (h0 _ rfl rfl rfl) (by rfl') (by rfl') (by rfl') (by rfl') (by rfl')) rfl fun x2 => vm (cPrio R (cuA (n + 1) (tP k1 ",") (aY x2.2.2)) can 0) [9, 10, 0, 1] (n_prioP w b R _ _ 0 (by rfl') (by rfl')) rfl fun x3 => vmG 0 1 false rfl fun x4 => vm (cEatN R (cuA (n + 1) (tP k1 ",") (aY x2.2.2)) (Z "?")) [9, 10, 0, 1] (n_eatN w b R _ _ (n_sign1 w b R _ _ false (by rfl') (by rfl'))) rfl fun x5 => vmE "punct" "punct" true (by rfl') fun x6 => vm (cInT 732 (Z ",") false) [] (n_inT w b 732 _ _ (by rfl')) rfl fun x7 => vm (cGoOut' R (cuA (n + 1) (tP k1 ",") (aY x2.2.2)) n) [9, 10] (n_goOut' w b R _ _ (dm n)) rfl fun x8 => vm (cSign R (cuA n (tP k1 ",") ((aY x2.2.2).pY x8.2.2)) (Z ",") true) [9, 10, 0, 1] (n_sign1 w b R _ _ true (by rfl') (by rfl')) rfl fun x9 => vm (cEatY R (cuA n (tP k1 ",") ((aY x2.2.2).pY x8.2.2)) (Z ",") k2) [10, 11, 12, 13, 1, 2] (n_eatY w b R _ _ _ (n_sign1 w b R _ _ true (by rfl') (by rfl')) (h1 _ rfl rfl rfl)) rfl fun x10 => vb (cAsT R (cuA n k2 (aY x10.2.2)) (tK k3 "in") can rk rl TT 160 1300) [12, 13, 14, 15, 0, 1] (ha _) rfl fun x11 => vm (cEatN R (cuA n (tK k3 "in") (aY x11.2.2)) (Z ",")) [16, 17, 0, 1] (n_eatN w b R _ _ (n_sign0 w b R _ _ (by rfl'))) rfl fun x12 => vm (cNode R.P (Z "Comma") k0.ln x12.1) [] (n_nodeP w b hw _ _ _) rfl fun x13 => ve) fun f B T x1 x2 x3 x4 x5 x6 x7 x8 x9 x10 x11 x12 x13 => ⟨(natAt (yH (aY x11.2.2) [(x13.2.2 0), 0, 0, 0, 0, 0, 0, 0, 0, 0, 0, 0, B])), (((x13.2.2 0), inst 38 (x13.2.2 1)) :: ((x13.2.2 1), nodeO R.P (Z "Comma") k0.ln x12.1 (natAt (rn x13.2.2 2 4 [])) (natAt [(x13.2.2 6), (x13.2.2 7), 0, 0])) :: (x12.1, listO [.ref x9.1]) :: (x9.1, listN [.ref (x2.2.2 29), .ref (x11.2.2 29)] 1) :: (nmO R.P "z" k0.ln x2.2.2 [])), [treeF R.P (x11.2.2 41) x11.1 (.ref (x11.2.2 29)) TT], by cases b <;> rfl', f1 fun h' hs hf m => nT (m 2 rfl) (m 3 rfl) (m 4 rfl) (.cons (lT (m 5 rfl) (.cons (nT (m 6 rfl) (m 7 rfl) (m 8 rfl) (.cons (.str _ _) .nil)) (.cons (IsTree.mono (hf _ (List.mem_of_getElem? (i := 0) rfl)).2.2.1 (hf _ (List.mem_of_getElem? (i := 0) rfl)).2.2.2 (fun _ _ _ _ e => e) (hf _ (List.mem_of_getElem? (i := 0) rfl)).1) .nil))) .nil)⟩
theorem lkc (w b) {Dv Uv : Nat} (R : Rd) (n : Int) (a : Ca) (k0 k1 k2 k3 : Tk) (sg : Str) (can : Bool) (rk : Str) (rl : Nat) (TT : Tr) (hw : R.P = w.params) (hn : n ≤ 20) (hs : sg ∈ signsL) (h0 : Nxt w b R (tN k0 "c") (k1.as sP sg)) (h1 : Nxt w b R (k1.as sP sg) k2) (ha : ∀ a2 : Ca, NdV w b Dv Uv (cAsT R (cuA (n + 1) k2 a2) k3 can rk rl TT 160 1300)) : NdV w b (Dv + 20) (Uv + 100) (cAsT R (cuA n (tN k0 "c") a) k3 can (Z "Assign") k0.ln (.node (Z "Assign") [.str sg, .node (Z "Name") [.str (Z "c")], TT]) 160 1300) := nV 180 1400 [23, 25] [3, 4, 0, 1, 2, 16, 17, 18] 810 (Kk [Kpb,Kgm,Kgv,Kje,Kie,Kiz,Kie,Klw,Kkl,Kbx,Kaj,Kif,Kaf,Kcq,129,Kcq,Kac,Kcq,Khv,128,Kas,Knx,Kms,Kag,Kcj,Kch,Kak,Kch,Kch,141,Kig,Kaf,Kfk,Kdp,143,Kdp,Kcf,Kfd,143,Kog,143,Krb,19222,Ker,Kde,Kde,Kqz,Kaf,150]) (fun f B T => vm (cGoIn R (cuA n (tN k0 "c") a)) [1, 2] (n_goIn w b R _ (dn (n := n) (by omega))) rfl fun x1 => vm (cUnN R ((cuA (n + 1) k0 (a.pY x1.2.2)).as sN (Z "c")) (k1.as sP sg)) [3, 4, 5, 6, 7, 8] (n_un1 w b R _ _ _ hw (h0 _ rfl rfl rfl) (by rfl') (sg_ne hs _ (by rfl')) (sg_ne hs _ (by rfl')) (sg_ne hs _ (by rfl')) (sg735 hs)) rfl fun x2 => vm (cPrio R (cuA (n + 1) (k1.as sP sg) (aY x2.2.2)) can 0) [8, 9, 0, 1] (n_prioSg w b R _ _ (by rfl') hs) rfl fun x3 => vmG 0 1 false rfl fun x4 => vm (cEatN R (cuA (n + 1) (k1.as sP sg) (aY x2.2.2)) (Z "?")) [8, 9, 0, 1] (n_eatN w b R _ _ (n_sign1 w b R _ _ false (by rfl') (sg_ne hs _ (by rfl')))) rfl fun x5 => vmE "punct" "punct" true (by rfl') fun x6 => vm (cInT 732 sg true) [] (n_inT w b 732 _ _ (sg732 hs)) rfl fun x7 => vmE "Name" "Name" true (by rfl') fun x8 => vm (cInT 512 (Z "Name") true) [] (n_inT w b 512 _ _ (by rfl')) rfl fun x9 => vmE "Name" "Name" true (by rfl') fun x10 => vm (cTake R (cuA (n + 1) (k1.as sP sg) (aY x2.2.2)) k2) [13, 14, 15, 16] (h1 _ rfl rfl rfl) rfl fun x11 => vb (cAsT R (cuA (n + 1) k2 (aY x11.2.2)) k3 can rk rl TT 160 1300) [15, 16, 17, 18, 0, 1] (ha _) rfl fun x12 => vm (cNode R.P (Z "Assign") k0.ln x12.1) [] (n_nodeP w b hw _ _ _) rfl fun x13 => vm (cGoOut' R (cuA (n + 1) k3 (aY x12.2.2)) n) [22, 23] (n_goOut' w b R _ _ (dm n)) rfl fun x14 => ve) fun f B T x1 x2 x3 x4 x5 x6 x7 x8 x9 x10 x11 x12 x13 x14 => ⟨(natAt (yH ((aY x12.2.2).pY x14.2.2) ((x13.2.2 0) :: (x13.2.2 1) :: x12.1 :: (rn x13.2.2 2 6 [0, 0, 0, B])))), ((x12.1, listO [.str sg (x2.2.2 14), .ref (x2.2.2 29), .ref (x12.2.2 29)]) :: (nmO R.P "c" k0.ln x2.2.2 [])), [treeF R.P (x12.2.2 41) x12.1 (.ref (x12.2.2 29)) TT], by cases b <;> rfl', f1 fun h' hs hf m => nT (m 2 rfl) (m 3 rfl) (m 4 rfl) (.cons (.str _ _) (.cons (nT (m 5 rfl) (m 6 rfl) (m 7 rfl) (.cons (.str _ _) .nil)) (.cons (IsTree.mono (hf _ (List.mem_of_getElem? (i := 0) rfl)).2.2.1 (hf _ (List.mem_of_getElem? (i := 0) rfl)).2.2.2 (fun _ _ _ _ e => e) (hf _ (List.mem_of_getElem? (i := 0) rfl)).1) .nil)))⟩
theorem cdr (w b) {Dv Uv : Nat} (R : Rd) (n : Int) (a : Ca) (k0 k1 k2 k3 k4 k5 : Tk) (can : Bool) (rk : Str) (rl : Nat) (TT : Tr) (hw : R.P = w.params) (hn : n ≤ 20) (h0 : Nxt w b R (tN k0 "a") (tP k1 "?")) (h1 : Nxt w b R (tP k1 "?") (tN k2 "b")) (h2 : Nxt w b R (tN k2 "b") (tP k3 ":")) (h3 : Nxt w b R (tP k3 ":") k4) (ha : ∀ a2 : Ca, NdV w b Dv Uv (cAsT R (cuA (n + 1) k4 a2) (tE k5) can rk rl TT 160 1300)) : NdV w b (Dv + 40) (Uv + 300) (cAsT R (cuA n (tN k0 "a") a) (tE k5) can (Z "Cond") k0.ln (.node (Z "Cond") [.node (Z "Name") [.str (Z "a")], .node (Z "Name") [.str (Z "b")], TT]) 160 1300) := nV 200 1600 [28, 30] [3, 4, 0, 1, 2, 21, 22, 23, 11, 12, 13] 863 (Kk [Kpb,Kgm,Kgv,Kjz,Kng,Kch,Knl,Kak,Kki,Kbu,Kmd,Kcp,Kml,Kdy,Kmj,Kgm,Kjm,Kje,Kpv,Kiz,Kpv,Klw,Kjm,Kda,Kpg,Kjm,Kaf,Kff,Kql,Kjg,147,Kmk,147,Krb,19867,Krm,Kah,Kgi,156,Kqa,Kfn,155,Kqn,Kaf,155]) (fun f B T => vm (cGoIn R (cuA n (tN k0 "a") a)) [1, 2] (n_goIn w b R _ (dn (n := n) (by omega))) rfl fun x1 => vm (cUnN R ((cuA (n + 1) k0 (a.pY x1.2.2)).as sN (Z "a")) (tP k1 "?")) [3, 4, 5, 6, 7, 8] (n_un1 w b R _ _ _ hw (h0 _ rfl rfl rfl) (by rfl') (by rfl') (by rfl') (by rfl') (by rfl')) rfl fun x2 => vm (cPrio R (cuA (n + 1) (tP k1 "?") (aY x2.2.2)) can 0) [8, 9, 0, 1] (n_prioP w b R _ _ 0 (by rfl') (by rfl')) rfl fun x3 => vmG 0 1 false rfl fun x4 => vm (cEatY R (cuA (n + 1) (tP k1 "?") (aY x2.2.2)) (Z "?") (tN k2 "b")) [8, 9, 10, 11, 0, 1] (n_eatY w b R _ _ _ (n_sign1 w b R _ _ true (by rfl') (by rfl')) (h1 _ rfl rfl rfl)) rfl fun x5 => vm (cGoIn R (cuA (n + 1) (tN k2 "b") (aY x5.2.2))) [11, 12] (n_goIn w b R _ (dn (n := (n + 1)) (by omega))) rfl fun x6 => vm (cUnN R ((cuA (n + 1 + 1) k2 ((aY x5.2.2).pY x6.2.2)).as sN (Z "b")) (tP k3 ":")) [13, 14, 15, 16, 3, 4] (n_un1 w b R _ _ _ hw (h2 _ rfl rfl rfl) (by rfl') (by rfl') (by rfl') (by rfl') (by rfl')) rfl fun x7 => vm (cPrio R (cuA (n + 1 + 1) (tP k3 ":") (aY x7.2.2)) true 0) [18, 19, 0, 1] (n_prioP w b R _ _ 0 (by rfl') (by rfl')) rfl fun x8 => vmG 0 1 false rfl fun x9 => vm (cEatN R (cuA (n + 1 + 1) (tP k3 ":") (aY x7.2.2)) (Z "?")) [18, 19, 0, 1] (n_eatN w b R _ _ (n_sign1 w b R _ _ false (by rfl') (by rfl'))) rfl fun x10 => vmE "punct" "punct" true (by rfl') fun x11 => vm (cInT 732 (Z ":") false) [] (n_inT w b 732 _ _ (by rfl')) rfl fun x12 => vm (cGoOut' R (cuA (n + 1 + 1) (tP k3 ":") (aY x7.2.2)) (n + 1)) [18, 19] (n_goOut' w b R _ _ (dm (n + 1))) rfl fun x13 => vm (cNeed R (cuA (n + 1) (tP k3 ":") ((aY x7.2.2).pY x13.2.2)) (Z ":") k4) [18, 19, 20, 21, 0, 1] (n_need w b R _ _ _ (n_eatY w b R _ _ _ (n_sign1 w b R _ _ true (by rfl') (by rfl')) (h3 _ rfl rfl rfl))) rfl fun x14 => vb (cAsT R (cuA (n + 1) k4 (aY x14.2.2)) (tE k5) can rk rl TT 160 1300) [20, 21, 22, 23, 0, 1] (ha _) rfl fun x15 => vm (cNode R.P (Z "Cond") k0.ln x15.1) [] (n_nodeP w b hw _ _ _) rfl fun x16 => vmE "end" "punct" false (by rfl') fun x17 => vm (cGoOut' R (cuA (n + 1) (tE k5) (aY x15.2.2)) n) [27, 28] (n_goOut' w b R _ _ (dm n)) rfl fun x18 => ve) fun f B T x1 x2 x3 x4 x5 x6 x7 x8 x9 x10 x11 x12 x13 x14 x15 x16 x17 x18 => ⟨(natAt (yH ((aY x15.2.2).pY x18.2.2) ((x16.2.2 0) :: (x16.2.2 1) :: x15.1 :: (rn x16.2.2 2 6 [0, 0, 0, B])))), ((x15.1, listO [.ref (x2.2.2 29), .ref (x7.2.2 29), .ref (x15.2.2 29)]) :: (nmO R.P "a" k0.ln x2.2.2 (nmO R.P "b" k2.ln x7.2.2 []))), [treeF R.P (x15.2.2 41) x15.1 (.ref (x15.2.2 29)) TT], by cases b <;> rfl', f1 fun h' hs hf m => nT (m 2 rfl) (m 3 rfl) (m 4 rfl) (.cons (nT (m 5 rfl) (m 6 rfl) (m 7 rfl) (.cons (.str _ _) .nil)) (.cons (nT (m 8 rfl) (m 9 rfl) (m 10 rfl) (.cons (.str _ _) .nil)) (.cons (IsTree.mono (hf _ (List.mem_of_getElem? (i := 0) rfl)).2.2.1 (hf _ (List.mem_of_getElem? (i := 0) rfl)).2.2.2 (fun _ _ _ _ e => e) (hf _ (List.mem_of_getElem? (i := 0) rfl)).1) .nil)))⟩
theorem ln0 (w b) (tx : Str) (k0 k1 k2 : Tk) (sg : Str) (hx : First w b tx (tN k0 "a")) (hs : sg ∈ signsL) (h0 : NxtA w b tx (tN k0 "a") (k1.as sP sg)) (h1 : NxtA w b tx (k1.as sP sg) (tE k2)) : LnN w b tx k2.ln :=
  nl (fun f B T => vJ (tN k0 "a") hx fun x1 => let R := rdOf w.params tx x1.2.2; vc (cGoIn R (cuA 0 (tN k0 "a") (aY x1.2.2))) [2, 3] (n_goIn w b _ _ (dn (n := 0) (by omega))) rfl fun x2 => vc (cUnN R ((cuA (0 + 1) k0 ((aY x1.2.2).pY x2.2.2)).as sN (Z "a")) (k1.as sP sg)) [4, 5, 6, 7, 8, 9] (n_un1 w b _ _ _ _ rfl (h0 R rfl rfl _ rfl rfl rfl) (by rfl') (sg_ne hs _ (by rfl')) (sg_ne hs _ (by rfl')) (sg_ne hs _ (by rfl')) (sg735 hs)) rfl fun x3 => vc (cPrio R (cuA (0 + 1) (k1.as sP sg) (aY x3.2.2)) true 0) [9, 10, 0, 1] (n_prioSg w b _ _ _ (by rfl') hs) rfl fun x4 => vcG 0 1 false rfl fun x5 => vc (cEatN R (cuA (0 + 1) (k1.as sP sg) (aY x3.2.2)) (Z "?")) [9, 10, 0, 1] (n_eatN w b _ _ _ (n_sign1 w b _ _ _ false (by rfl') (sg_ne hs _ (by rfl')))) rfl fun x6 => vcE "punct" "punct" true (by rfl') fun x7 => vc (cInT 732 sg true) [] (n_inT w b 732 _ _ (sg732 hs)) rfl fun x8 => vcE "Name" "Name" true (by rfl') fun x9 => vc (cInT 512 (Z "Name") true) [] (n_inT w b 512 _ _ (by rfl')) rfl fun x10 => vcE "Name" "Name" true (by rfl') fun x11 => vc (cTake R (cuA (0 + 1) (k1.as sP sg) (aY x3.2.2)) (tE k2)) [14, 15, 16, 17] (h1 R rfl rfl _ rfl rfl rfl) rfl fun x12 => vc (cGoIn R (cuA (0 + 1) (tE k2) (aY x12.2.2))) [17, 18] (n_goIn w b _ _ (dn (n := (0 + 1)) (by omega))) rfl fun x13 => vcE "end" "punct" false (by rfl') fun x14 => vcE "end" "punct" false (by rfl') fun x15 => vcE "end" "keyword" false (by rfl') fun x16 => vc (cWord R (cuA (0 + 1 + 1) (tE k2) ((aY x12.2.2).pY x13.2.2)) (Z "new") false) [22, 23, 6, 7] (n_word0 w b _ _ _ (by rfl')) rfl fun x17 => vcE "end" "name" false (by rfl') fun x18 => vc (cInTs (x17.1 + 1) [.str (Z "number") (x18.2.1 + 1), .str (Z "text") (x18.2.1 + 2)] (Z "end") false) [0] (n_inTs w b _ _ _ _ (by rfl') (by rfl')) rfl fun x19 => vcE "end" "keyword" false (by rfl') fun x20 => vc (cEatN R (cuA (0 + 1 + 1) (tE k2) ((aY x12.2.2).pY x13.2.2)) (Z "(")) [24, 25, 8, 9] (n_eatN w b _ _ _ (n_sign0 w b _ _ _ (by rfl'))) rfl fun x21 => vc (cSign R (cuA (0 + 1 + 1) (tE k2) ((aY x12.2.2).pY x13.2.2)) (Z "[") false) [24, 25, 8, 9] (n_sign0 w b _ _ _ (by rfl')) rfl fun x22 => vc (cSign R (cuA (0 + 1 + 1) (tE k2) ((aY x12.2.2).pY x13.2.2)) (Z "{") false) [24, 25, 8, 9] (n_sign0 w b _ _ _ (by rfl')) rfl fun x23 => vc (cSign R (cuA (0 + 1 + 1) (tE k2) ((aY x12.2.2).pY x13.2.2)) (Z "/") false) [24, 25, 8, 9] (n_sign0 w b _ _ _ (by rfl')) rfl fun x24 => vc (cSign R (cuA (0 + 1 + 1) (tE k2) ((aY x12.2.2).pY x13.2.2)) (Z "/=") false) [24, 25, 8, 9] (n_sign0 w b _ _ _ (by rfl')) rfl fun x25 => vcE "end" "end" true (by rfl') fun x26 => ve) 1889 (Kk [Kji,Kga,Kci,Kdj,Knn,Kgm,Kif,Kje,Kgw,Kiz,Kgw,Klw,Knn,Kbx,Kaj,Knf,Kaf,Kcq,129,Kcq,Kac,Kcq,Khv,128,Kas,Kaf,Klq,Kdm,Khf,Kms,Kag,Kcj,Kch,Kak,Kch,Kch,141,Knj,143,Kah,Kpx,Kaf,Kfk,Kdp,143,Kdp,Kcf,Kfd,143,Knk,143,Kch,Kmi,Kom,Kbu,Kmj,Kcp,Kme,Kaw,149,Kah,Kep,149,Koz,Kae,Kdn,Kac,Kdn,Kaq,Kdn,Ken,Kmk,Kaw,Kky,Kaw,Kkw,129,Khr,Kqz,Kak,Kkw,Kaw,152,Kah,Kkq,0x264018,Kae,Kfk,Kac,Kfk,Kle,Kdh,Kks,Kmx,Kah,Kin,Kdu,Kmx,Kah,Kin,Kdu,Kmx,Kah,Kin,Kdu,Kmx,Kah,Kin,Kdu,Kmx,Kah,Kin,Kdu,Kmx,Kah,Kin,Kaw,Kqj,Kah,Knz,19713,Kah,Kli,Kqd,Kcf,Kmm,155,Kah,Kpu,155,Kqb,Kii,Kqm]) 61 (Kk [Kad,129,Kbn,Kan,Kkj,129,Kah,Kjp,Kdb,Kai,Kft,Kft]) ⟨2, 0, 36, 4, [(0, 5), (0, 7), (0, 8), (0, 9), (0, 10), (0, 11), (0, 12), (0, 13), (0, 28), (0, 29), (3, 36)]⟩ fun f B T x1 x2 x3 x4 x5 x6 x7 x8 x9 x10 x11 x12 x13 x14 x15 x16 x17 x18 x19 x20 x21 x22 x23 x24 x25 x26 ld => ⟨(x12.2.2 15), by cases b <;> rfl'⟩
theorem ln2 (w b) (tx : Str) (k0 k1 k2 k3 k4 : Tk) (hx : First w b tx (tN k0 "a")) (h0 : NxtA w b tx (tN k0 "a") (tP k1 "?")) (h1 : NxtA w b tx (tP k1 "?") (tN k2 "b")) (h2 : NxtA w b tx (tN k2 "b") (tP k3 ":")) (h3 : NxtA w b tx (tP k3 ":") (tE k4)) : LnN w b tx k4.ln :=
  nl (fun f B T => vJ (tN k0 "a") hx fun x1 => let R := rdOf w.params tx x1.2.2; vc (cGoIn R (cuA 0 (tN k0 "a") (aY x1.2.2))) [2, 3] (n_goIn w b _ _ (dn (n := 0) (by omega))) rfl fun x2 => vc (cUnN R ((cuA (0 + 1) k0 ((aY x1.2.2).pY x2.2.2)).as sN (Z "a")) (tP k1 "?")) [4, 5, 6, 7, 8, 9] (n_un1 w b _ _ _ _ rfl (h0 R rfl rfl _ rfl rfl rfl) (by rfl') (by rfl') (by rfl') (by rfl') (by rfl')) rfl fun x3 => vc (cPrio R (cuA (0 + 1) (tP k1 "?") (aY x3.2.2)) true 0) [9, 10, 0, 1] (n_prioP w b _ _ _ 0 (by rfl') (by rfl')) rfl fun x4 => vcG 0 1 false rfl fun x5 => vc (cEatY R (cuA (0 + 1) (tP k1 "?") (aY x3.2.2)) (Z "?") (tN k2 "b")) [9, 10, 11, 12, 0, 1] (n_eatY w b _ _ _ _ (n_sign1 w b _ _ _ true (by rfl') (by rfl')) (h1 R rfl rfl _ rfl rfl rfl)) rfl fun x6 => vc (cGoIn R (cuA (0 + 1) (tN k2 "b") (aY x6.2.2))) [12, 13] (n_goIn w b _ _ (dn (n := (0 + 1)) (by omega))) rfl fun x7 => vc (cUnN R ((cuA (0 + 1 + 1) k2 ((aY x6.2.2).pY x7.2.2)).as sN (Z "b")) (tP k3 ":")) [14, 15, 16, 17, 3, 4] (n_un1 w b _ _ _ _ rfl (h2 R rfl rfl _ rfl rfl rfl) (by rfl') (by rfl') (by rfl') (by rfl') (by rfl')) rfl fun x8 => vc (cPrio R (cuA (0 + 1 + 1) (tP k3 ":") (aY x8.2.2)) true 0) [19, 20, 0, 1] (n_prioP w b _ _ _ 0 (by rfl') (by rfl')) rfl fun x9 => vcG 0 1 false rfl fun x10 => vc (cEatN R (cuA (0 + 1 + 1) (tP k3 ":") (aY x8.2.2)) (Z "?")) [19, 20, 0, 1] (n_eatN w b _ _ _ (n_sign1 w b _ _ _ false (by rfl') (by rfl'))) rfl fun x11 => vcE "punct" "punct" true (by rfl') fun x12 => vc (cInT 732 (Z ":") false) [] (n_inT w b 732 _ _ (by rfl')) rfl fun x13 => vc (cGoOut' R (cuA (0 + 1 + 1) (tP k3 ":") (aY x8.2.2)) (0 + 1)) [19, 20] (n_goOut' w b _ _ _ (dm (0 + 1))) rfl fun x14 => vc (cNeed R (cuA (0 + 1) (tP k3 ":") ((aY x8.2.2).pY x14.2.2)) (Z ":") (tE k4)) [19, 20, 21, 22, 0, 1] (n_need w b _ _ _ _ (n_eatY w b _ _ _ _ (n_sign1 w b _ _ _ true (by rfl') (by rfl')) (h3 R rfl rfl _ rfl rfl rfl))) rfl fun x15 => vc (cGoIn R (cuA (0 + 1) (tE k4) (aY x15.2.2))) [22, 23] (n_goIn w b _ _ (dn (n := (0 + 1)) (by omega))) rfl fun x16 => vcE "end" "punct" false (by rfl') fun x17 => vcE "end" "punct" false (by rfl') fun x18 => vcE "end" "keyword" false (by rfl') fun x19 => vc (cWord R (cuA (0 + 1 + 1) (tE k4) ((aY x15.2.2).pY x16.2.2)) (Z "new") false) [27, 28, 6, 7] (n_word0 w b _ _ _ (by rfl')) rfl fun x20 => vcE "end" "name" false (by rfl') fun x21 => vc (cInTs (x20.1 + 1) [.str (Z "number") (x21.2.1 + 1), .str (Z "text") (x21.2.1 + 2)] (Z "end") false) [0] (n_inTs w b _ _ _ _ (by rfl') (by rfl')) rfl fun x22 => vcE "end" "keyword" false (by rfl') fun x23 => vc (cEatN R (cuA (0 + 1 + 1) (tE k4) ((aY x15.2.2).pY x16.2.2)) (Z "(")) [29, 30, 8, 9] (n_eatN w b _ _ _ (n_sign0 w b _ _ _ (by rfl'))) rfl fun x24 => vc (cSign R (cuA (0 + 1 + 1) (tE k4) ((aY x15.2.2).pY x16.2.2)) (Z "[") false) [29, 30, 8, 9] (n_sign0 w b _ _ _ (by rfl')) rfl fun x25 => vc (cSign R (cuA (0 + 1 + 1) (tE k4) ((aY x15.2.2).pY x16.2.2)) (Z "{") false) [29, 30, 8, 9] (n_sign0 w b _ _ _ (by rfl')) rfl fun x26 => vc (cSign R (cuA (0 + 1 + 1) (tE k4) ((aY x15.2.2).pY x16.2.2)) (Z "/") false) [29, 30, 8, 9] (n_sign0 w b _ _ _ (by rfl')) rfl fun x27 => vc (cSign R (cuA (0 + 1 + 1) (tE k4) ((aY x15.2.2).pY x16.2.2)) (Z "/=") false) [29, 30, 8, 9] (n_sign0 w b _ _ _ (by rfl')) rfl fun x28 => vcE "end" "end" true (by rfl') fun x29 => ve) 1893 (Kk [Kji,Kga,Kci,Kdj,Knn,Kgm,Kif,Kjz,Kki,Kch,Knh,Kak,Kmd,Kbu,Kml,Kcp,Kqe,Kdy,Kme,Kgm,Kni,Kje,148,Kah,Kez,148,Kqc,Kiz,148,Kah,Kez,148,Kqc,Klw,Kni,Kda,Kpg,Kni,Kaf,Kff,Kql,Kjg,147,Kky,147,Kch,Khr,Kqz,Kak,Kkw,Kbu,Koe,Kcp,Kmx,Kab,Kin,Kaw,154,Kah,Kli,Kqd,Kae,Kdn,Kac,Kdn,Kaq,Kdn,Ken,Kqj,Kab,Knz,Kaw,Kpu,Kjq,Kab,Krm,Kaw,Knd,129,Kqn,Kak,Knd,Kaw,157,Kah,Khy,0x27801d,Kae,Kfk,Kac,Kfk,Kle,Kdh,Kks,Kir,Kdu,Kir,Kdu,Kir,Kdu,Kir,Kdu,Kir,Kdu,Kir,Kaw,Kpa,20353,Kah,Khn,159,Koy,Kcf,Kmm,160,Kah,Kgp,0x284020,Kii,Kqm]) 61 (Kk [Kad,129,Kbn,Kan,Kkj,129,Kah,Kjp,Kdb,Kai,Kft,Kft]) ⟨2, 0, 41, 4, [(0, 5), (0, 7), (0, 8), (0, 9), (0, 10), (0, 11), (0, 12), (0, 13), (0, 32), (0, 33), (0, 34), (3, 41)]⟩ fun f B T x1 x2 x3 x4 x5 x6 x7 x8 x9 x10 x11 x12 x13 x14 x15 x16 x17 x18 x19 x20 x21 x22 x23 x24 x25 x26 x27 x28 x29 ld => ⟨(x15.2.2 15), by cases b <;> rfl'⟩
theorem ln5 (w b) (tx : Str) (k0 k1 k2 k3 k4 : Tk) (hx : First w b tx (tN k0 "f")) (h0 : NxtA w b tx (tN k0 "f") (tP k1 "(")) (h1 : NxtA w b tx (tP k1 "(") (tN k2 "a")) (h2 : NxtA w b tx (tN k2 "a") (tP k3 ",")) (h3 : NxtA w b tx (tP k3 ",") (tE k4)) : LnN w b tx k4.ln :=
  nl (fun f B T => vJ (tN k0 "f") hx fun x1 => let R := rdOf w.params tx x1.2.2; vc (cGoIn R (cuA 0 (tN k0 "f") (aY x1.2.2))) [2, 3] (n_goIn w b _ _ (dn (n := 0) (by omega))) rfl fun x2 => vcE "name" "punct" false (by rfl') fun x3 => vcE "name" "punct" false (by rfl') fun x4 => vcE "name" "keyword" false (by rfl') fun x5 => vc (cWord R (cuA (0 + 1) (tN k0 "f") ((aY x1.2.2).pY x2.2.2)) (Z "new") false) [7, 8, 11, 12] (n_word0 w b _ _ _ (by rfl')) rfl fun x6 => vcE "name" "name" true (by rfl') fun x7 => vc (cStrNe (Z "name") (Z "name") false) [] (n_str_ne w b _ _ _ (by rfl')) rfl fun x8 => vc (cTake R (cuA (0 + 1) (tN k0 "f") ((aY x1.2.2).pY x2.2.2)) (tP k1 "(")) [11, 12, 13, 14] (h0 R rfl rfl _ rfl rfl rfl) rfl fun x9 => vc (cNode R.P (Z "Name") k0.ln x9.1) [] (n_nodeP w b rfl _ _ _) rfl fun x10 => vc (cSign R (cuA (0 + 1) (tP k1 "(") (aY x9.2.2)) (Z ".") false) [17, 18, 4, 5] (n_sign1 w b _ _ _ false (by rfl') (by rfl')) rfl fun x11 => vc (cSign R (cuA (0 + 1) (tP k1 "(") (aY x9.2.2)) (Z "[") false) [17, 18, 4, 5] (n_sign1 w b _ _ _ false (by rfl') (by rfl')) rfl fun x12 => vc (cSign R (cuA (0 + 1) (tP k1 "(") (aY x9.2.2)) (Z "(") true) [17, 18, 4, 5] (n_sign1 w b _ _ _ true (by rfl') (by rfl')) rfl fun x13 => vc (cNeed R (cuA (0 + 1) (tP k1 "(") (aY x9.2.2)) (Z "(") (tN k2 "a")) [18, 19, 20, 21, 5, 6] (n_need w b _ _ _ _ (n_eatY w b _ _ _ _ (n_sign1 w b _ _ _ true (by rfl') (by rfl')) (h1 R rfl rfl _ rfl rfl rfl))) rfl fun x14 => vc (cSign R (cuA (0 + 1) (tN k2 "a") (aY x14.2.2)) (Z ")") false) [21, 22, 1, 2] (n_sign0 w b _ _ _ (by rfl')) rfl fun x15 => vc (cGoIn R (cuA (0 + 1) (tN k2 "a") (aY x14.2.2))) [22, 23] (n_goIn w b _ _ (dn (n := (0 + 1)) (by omega))) rfl fun x16 => vc (cUnN R ((cuA (0 + 1 + 1) k2 ((aY x14.2.2).pY x16.2.2)).as sN (Z "a")) (tP k3 ",")) [24, 25, 26, 27, 4, 5] (n_un1 w b _ _ _ _ rfl (h2 R rfl rfl _ rfl rfl rfl) (by rfl') (by rfl') (by rfl') (by rfl') (by rfl')) rfl fun x17 => vc (cPrio R (cuA (0 + 1 + 1) (tP k3 ",") (aY x17.2.2)) true 0) [29, 30, 0, 1] (n_prioP w b _ _ _ 0 (by rfl') (by rfl')) rfl fun x18 => vcG 0 1 false rfl fun x19 => vc (cEatN R (cuA (0 + 1 + 1) (tP k3 ",") (aY x17.2.2)) (Z "?")) [29, 30, 0, 1] (n_eatN w b _ _ _ (n_sign1 w b _ _ _ false (by rfl') (by rfl'))) rfl fun x20 => vcE "punct" "punct" true (by rfl') fun x21 => vc (cInT 732 (Z ",") false) [] (n_inT w b 732 _ _ (by rfl')) rfl fun x22 => vc (cGoOut' R (cuA (0 + 1 + 1) (tP k3 ",") (aY x17.2.2)) (0 + 1)) [29, 30] (n_goOut' w b _ _ _ (dm (0 + 1))) rfl fun x23 => vc (cEatY R (cuA (0 + 1) (tP k3 ",") ((aY x17.2.2).pY x23.2.2)) (Z ",") (tE k4)) [29, 30, 31, 32, 0, 1] (n_eatY w b _ _ _ _ (n_sign1 w b _ _ _ true (by rfl') (by rfl')) (h3 R rfl rfl _ rfl rfl rfl)) rfl fun x24 => vc (cSign R (cuA (0 + 1) (tE k4) (aY x24.2.2)) (Z ")") false) [31, 32, 0, 1] (n_sign0 w b _ _ _ (by rfl')) rfl fun x25 => vc (cSign R (cuA (0 + 1) (tE k4) (aY x24.2.2)) (Z ")") false) [31, 32, 0, 1] (n_sign0 w b _ _ _ (by rfl')) rfl fun x26 => vc (cGoIn R (cuA (0 + 1) (tE k4) (aY x24.2.2))) [32, 33] (n_goIn w b _ _ (dn (n := (0 + 1)) (by omega))) rfl fun x27 => vcE "end" "punct" false (by rfl') fun x28 => vcE "end" "punct" false (by rfl') fun x29 => vcE "end" "keyword" false (by rfl') fun x30 => vc (cWord R (cuA (0 + 1 + 1) (tE k4) ((aY x24.2.2).pY x27.2.2)) (Z "new") false) [37, 38, 6, 7] (n_word0 w b _ _ _ (by rfl')) rfl fun x31 => vcE "end" "name" false (by rfl') fun x32 => vc (cInTs (x31.1 + 1) [.str (Z "number") (x32.2.1 + 1), .str (Z "text") (x32.2.1 + 2)] (Z "end") false) [0] (n_inTs w b _ _ _ _ (by rfl') (by rfl')) rfl fun x33 => vcE "end" "keyword" false (by rfl') fun x34 => vc (cEatN R (cuA (0 + 1 + 1) (tE k4) ((aY x24.2.2).pY x27.2.2)) (Z "(")) [39, 40, 8, 9] (n_eatN w b _ _ _ (n_sign0 w b _ _ _ (by rfl'))) rfl fun x35 => vc (cSign R (cuA (0 + 1 + 1) (tE k4) ((aY x24.2.2).pY x27.2.2)) (Z "[") false) [39, 40, 8, 9] (n_sign0 w b _ _ _ (by rfl')) rfl fun x36 => vc (cSign R (cuA (0 + 1 + 1) (tE k4) ((aY x24.2.2).pY x27.2.2)) (Z "{") false) [39, 40, 8, 9] (n_sign0 w b _ _ _ (by rfl')) rfl fun x37 => vc (cSign R (cuA (0 + 1 + 1) (tE k4) ((aY x24.2.2).pY x27.2.2)) (Z "/") false) [39, 40, 8, 9] (n_sign0 w b _ _ _ (by rfl')) rfl fun x38 => vc (cSign R (cuA (0 + 1 + 1) (tE k4) ((aY x24.2.2).pY x27.2.2)) (Z "/=") false) [39, 40, 8, 9] (n_sign0 w b _ _ _ (by rfl')) rfl fun x39 => vcE "end" "end" true (by rfl') fun x40 => ve) 2808 (Kk [Kqi,Kqv,Kol,Kaf,Kol,Kgv,Kaw,Kgw,Kjj,Kak,Kif,Knx,Kjj,Knx,Kch,Knr,Knl,Kaf,Kow,Knc,Kmi,Kmi,Kpi,Kfl,Kpp,Kom,Kba,Kbr,Kcv,Kom,Kaw,Kjm,Kaf,Kbp,132,Kkk,Kny,Kaq,132,Kky,Kch,Khr,Kqz,Kak,Kkw,Kbu,Koe,Kcp,Kmx,Kab,Kin,Kdy,Kgb,Kab,Kev,Kgm,Kir,Kje,158,Kah,Keu,Krk,159,Kiz,158,Kah,Keu,Krk,159,Klw,Kir,Kda,Kmg,140,Kir,Kaf,142,Klm,Kaf,Kcc,Klm,Kaf,142,Kcv,Kcv,142,Kjc,Kab,Kgq,Kch,Koh,Kah,Klh,Kak,Koh,Kab,Klh,Kbu,Kqf,Kab,Kpt,Kcp,Kqg,Kab,Krj,Kaw,164,Kah,Kkd,164,Krr,Kae,Kdn,Kac,Kdn,Kaq,Kdn,Ken,Koi,Kab,Kou,Kaw,165,Kpq,Kpq,Kab,21285,Kaw,166,Kmq,Kmq,Kab,0x14c053a6,Kmq,Kmq,Kah,21414,Kak,166,Kmq,Kmq,Kab,21414,Kaw,167,Kah,Kot,0x2a0027,Kae,Kfk,Kac,Kfk,Kle,Kdh,Kks,Kkv,Kdu,Kkv,Kdu,Kkv,Kdu,Kkv,Kdu,Kkv,Kdu,Kkv,Kaw,169,Kad,169,Kad,169,Kah,0x15205529,Kah,169,Kad,0x154014a9,Kcf,Kmm,170,Kah,170,Kad,0x1560152a,Kii,Kqm]) 61 (Kk [Kad,129,Kbn,Kan,Kkj,129,Kah,Kjp,Kdb,Kai,Kft,Kft]) ⟨2, 0, 51, 4, [(0, 5), (0, 7), (0, 8), (0, 9), (0, 10), (0, 11), (0, 12), (0, 13), (1, 27), (1, 38), (0, 39), (0, 40), (0, 41), (0, 42), (0, 43), (0, 44), (3, 51)]⟩ fun f B T x1 x2 x3 x4 x5 x6 x7 x8 x9 x10 x11 x12 x13 x14 x15 x16 x17 x18 x19 x20 x21 x22 x23 x24 x25 x26 x27 x28 x29 x30 x31 x32 x33 x34 x35 x36 x37 x38 x39 x40 ld => ⟨(x24.2.2 15), by cases b <;> rfl'⟩
theorem ln6 (w b) (tx : Str) (k0 k1 k2 : Tk) (hx : First w b tx (tN k0 "a")) (h0 : NxtA w b tx (tN k0 "a") (tP k1 ".")) (h1 : NxtA w b tx (tP k1 ".") (tE k2)) : LnN w b tx k2.ln :=
  nl (fun f B T => vJ (tN k0 "a") hx fun x1 => let R := rdOf w.params tx x1.2.2; vc (cGoIn R (cuA 0 (tN k0 "a") (aY x1.2.2))) [2, 3] (n_goIn w b _ _ (dn (n := 0) (by omega))) rfl fun x2 => vcE "name" "punct" false (by rfl') fun x3 => vcE "name" "punct" false (by rfl') fun x4 => vcE "name" "keyword" false (by rfl') fun x5 => vc (cWord R (cuA (0 + 1) (tN k0 "a") ((aY x1.2.2).pY x2.2.2)) (Z "new") false) [7, 8, 11, 12] (n_word0 w b _ _ _ (by rfl')) rfl fun x6 => vcE "name" "name" true (by rfl') fun x7 => vc (cStrNe (Z "name") (Z "name") false) [] (n_str_ne w b _ _ _ (by rfl')) rfl fun x8 => vc (cTake R (cuA (0 + 1) (tN k0 "a") ((aY x1.2.2).pY x2.2.2)) (tP k1 ".")) [11, 12, 13, 14] (h0 R rfl rfl _ rfl rfl rfl) rfl fun x9 => vc (cNode R.P (Z "Name") k0.ln x9.1) [] (n_nodeP w b rfl _ _ _) rfl fun x10 => vc (cSign R (cuA (0 + 1) (tP k1 ".") (aY x9.2.2)) (Z ".") true) [17, 18, 4, 5] (n_sign1 w b _ _ _ true (by rfl') (by rfl')) rfl fun x11 => vc (cTake R (cuA (0 + 1) (tP k1 ".") (aY x9.2.2)) (tE k2)) [17, 18, 19, 20] (h1 R rfl rfl _ rfl rfl rfl) rfl fun x12 => vcE "." "." true (by rfl') fun x13 => vc (cInTs (x12.1 + 1) [.str (Z "name") (x13.2.1 + 5), .str (Z "keyword") (x13.2.1 + 6)] (Z "end") false) [0] (n_inTs w b _ _ _ _ (by rfl') (by rfl')) rfl fun x14 => vcE "end" "end" true (by rfl') fun x15 => ve) 1443 (Kk [Kqi,Kqv,Kol,Kaf,Kol,Kgv,Kaw,Kgw,Kjj,Kak,Kif,Knx,Kjj,Knx,Kch,Knr,Knl,Kaf,Kow,Knc,Kmi,Kfl,Keh,Klv,Kaf,Kai,Kcq,Kal,Kni,Kaw,149,Kah,Kep,149,Koz,Kbr,Kbm,Kkk,Kaw,Khr,Kqz,19329,Kah,Kgj,0x260017,Kcq,Kmm,152,Kah,Kkq,0x264018,Kdn,Kqm]) 61 (Kk [Kad,129,Kbn,Kan,Kkj,129,Kah,Kjp,Kdb,Kai,Kft,Kft]) ⟨2, 0, 33, 4, [(0, 5), (0, 7), (1, 10), (0, 20), (0, 21), (0, 22), (0, 23), (0, 24), (0, 25), (0, 26), (3, 33)]⟩ fun f B T x1 x2 x3 x4 x5 x6 x7 x8 x9 x10 x11 x12 x13 x14 x15 ld => ⟨(x12.2.2 15), by cases b <;> rfl'⟩
theorem ln9 (w b) (tx : Str) (k0 k1 k2 k3 : Tk) (hx : First w b tx (tP k0 "[")) (h0 : NxtA w b tx (tP k0 "[") (tN k1 "a")) (h1 : NxtA w b tx (tN k1 "a") (tP k2 ",")) (h2 : NxtA w b tx (tP k2 ",") (tE k3)) : LnN w b tx k3.ln :=
  nl (fun f B T => vJ (tP k0 "[") hx fun x1 => let R := rdOf w.params tx x1.2.2; vc (cGoIn R (cuA 0 (tP k0 "[") (aY x1.2.2))) [2, 3] (n_goIn w b _ _ (dn (n := 0) (by omega))) rfl fun x2 => vcE "punct" "punct" true (by rfl') fun x3 => vc (cInT 735 (Z "[") false) [] (n_inT w b 735 _ _ (by rfl')) rfl fun x4 => vcE "punct" "punct" true (by rfl') fun x5 => vc (cInT 733 (Z "[") false) [] (n_inT w b 733 _ _ (by rfl')) rfl fun x6 => vcE "punct" "keyword" false (by rfl') fun x7 => vc (cWord R (cuA (0 + 1) (tP k0 "[") ((aY x1.2.2).pY x2.2.2)) (Z "new") false) [7, 8, 11, 12] (n_word0 w b _ _ _ (by rfl')) rfl fun x8 => vcE "punct" "name" false (by rfl') fun x9 => vc (cInTs (x8.1 + 1) [.str (Z "number") (x9.2.1 + 1), .str (Z "text") (x9.2.1 + 2)] (Z "punct") false) [0] (n_inTs w b _ _ _ _ (by rfl') (by rfl')) rfl fun x10 => vcE "punct" "keyword" false (by rfl') fun x11 => vc (cEatN R (cuA (0 + 1) (tP k0 "[") ((aY x1.2.2).pY x2.2.2)) (Z "(")) [9, 10, 13, 14] (n_eatN w b _ _ _ (n_sign1 w b _ _ _ false (by rfl') (by rfl'))) rfl fun x12 => vc (cSign R (cuA (0 + 1) (tP k0 "[") ((aY x1.2.2).pY x2.2.2)) (Z "[") true) [9, 10, 13, 14] (n_sign1 w b _ _ _ true (by rfl') (by rfl')) rfl fun x13 => vc (cTake R (cuA (0 + 1) (tP k0 "[") ((aY x1.2.2).pY x2.2.2)) (tN k1 "a")) [10, 11, 12, 13] (h0 R rfl rfl _ rfl rfl rfl) rfl fun x14 => vc (cSign R (cuA (0 + 1) (tN k1 "a") (aY x14.2.2)) (Z "]") false) [13, 14, 1, 2] (n_sign0 w b _ _ _ (by rfl')) rfl fun x15 => vc (cEatN R (cuA (0 + 1) (tN k1 "a") (aY x14.2.2)) (Z ",")) [13, 14, 1, 2] (n_eatN w b _ _ _ (n_sign0 w b _ _ _ (by rfl'))) rfl fun x16 => vc (cGoIn R (cuA (0 + 1) (tN k1 "a") (aY x14.2.2))) [14, 15] (n_goIn w b _ _ (dn (n := (0 + 1)) (by omega))) rfl fun x17 => vc (cUnN R ((cuA (0 + 1 + 1) k1 ((aY x14.2.2).pY x17.2.2)).as sN (Z "a")) (tP k2 ",")) [16, 17, 18, 19, 4, 5] (n_un1 w b _ _ _ _ rfl (h1 R rfl rfl _ rfl rfl rfl) (by rfl') (by rfl') (by rfl') (by rfl') (by rfl')) rfl fun x18 => vc (cPrio R (cuA (0 + 1 + 1) (tP k2 ",") (aY x18.2.2)) true 0) [21, 22, 0, 1] (n_prioP w b _ _ _ 0 (by rfl') (by rfl')) rfl fun x19 => vcG 0 1 false rfl fun x20 => vc (cEatN R (cuA (0 + 1 + 1) (tP k2 ",") (aY x18.2.2)) (Z "?")) [21, 22, 0, 1] (n_eatN w b _ _ _ (n_sign1 w b _ _ _ false (by rfl') (by rfl'))) rfl fun x21 => vcE "punct" "punct" true (by rfl') fun x22 => vc (cInT 732 (Z ",") false) [] (n_inT w b 732 _ _ (by rfl')) rfl fun x23 => vc (cGoOut' R (cuA (0 + 1 + 1) (tP k2 ",") (aY x18.2.2)) (0 + 1)) [21, 22] (n_goOut' w b _ _ _ (dm (0 + 1))) rfl fun x24 => vc (cSign R (cuA (0 + 1) (tP k2 ",") ((aY x18.2.2).pY x24.2.2)) (Z "]") false) [21, 22, 0, 1] (n_sign1 w b _ _ _ false (by rfl') (by rfl')) rfl fun x25 => vc (cNeed R (cuA (0 + 1) (tP k2 ",") ((aY x18.2.2).pY x24.2.2)) (Z ",") (tE k3)) [21, 22, 23, 24, 0, 1] (n_need w b _ _ _ _ (n_eatY w b _ _ _ _ (n_sign1 w b _ _ _ true (by rfl') (by rfl')) (h2 R rfl rfl _ rfl rfl rfl))) rfl fun x26 => vc (cSign R (cuA (0 + 1) (tE k3) (aY x26.2.2)) (Z "]") false) [23, 24, 0, 1] (n_sign0 w b _ _ _ (by rfl')) rfl fun x27 => vc (cEatN R (cuA (0 + 1) (tE k3) (aY x26.2.2)) (Z ",")) [23, 24, 0, 1] (n_eatN w b _ _ _ (n_sign0 w b _ _ _ (by rfl'))) rfl fun x28 => vc (cGoIn R (cuA (0 + 1) (tE k3) (aY x26.2.2))) [24, 25] (n_goIn w b _ _ (dn (n := (0 + 1)) (by omega))) rfl fun x29 => vcE "end" "punct" false (by rfl') fun x30 => vcE "end" "punct" false (by rfl') fun x31 => vcE "end" "keyword" false (by rfl') fun x32 => vc (cWord R (cuA (0 + 1 + 1) (tE k3) ((aY x26.2.2).pY x29.2.2)) (Z "new") false) [29, 30, 6, 7] (n_word0 w b _ _ _ (by rfl')) rfl fun x33 => vcE "end" "name" false (by rfl') fun x34 => vc (cInTs (x33.1 + 1) [.str (Z "number") (x34.2.1 + 1), .str (Z "text") (x34.2.1 + 2)] (Z "end") false) [0] (n_inTs w b _ _ _ _ (by rfl') (by rfl')) rfl fun x35 => vcE "end" "keyword" false (by rfl') fun x36 => vc (cEatN R (cuA (0 + 1 + 1) (tE k3) ((aY x26.2.2).pY x29.2.2)) (Z "(")) [31, 32, 8, 9] (n_eatN w b _ _ _ (n_sign0 w b _ _ _ (by rfl'))) rfl fun x37 => vc (cSign R (cuA (0 + 1 + 1) (tE k3) ((aY x26.2.2).pY x29.2.2)) (Z "[") false) [31, 32, 8, 9] (n_sign0 w b _ _ _ (by rfl')) rfl fun x38 => vc (cSign R (cuA (0 + 1 + 1) (tE k3) ((aY x26.2.2).pY x29.2.2)) (Z "{") false) [31, 32, 8, 9] (n_sign0 w b _ _ _ (by rfl')) rfl fun x39 => vc (cSign R (cuA (0 + 1 + 1) (tE k3) ((aY x26.2.2).pY x29.2.2)) (Z "/") false) [31, 32, 8, 9] (n_sign0 w b _ _ _ (by rfl')) rfl fun x40 => vc (cSign R (cuA (0 + 1 + 1) (tE k3) ((aY x26.2.2).pY x29.2.2)) (Z "/=") false) [31, 32, 8, 9] (n_sign0 w b _ _ _ (by rfl')) rfl fun x41 => vcE "end" "end" true (by rfl') fun x42 => ve) 2579 (Kk [Klz,Kdb,Kiu,Kfb,Kqv,Kew,Kac,Kew,Kle,Kjj,Kks,Kif,Kdu,Kif,Kdu,Knn,Kaw,Knf,Khw,Kmr,Kfq,Kbp,132,Kig,Kny,Kig,Kny,Kaq,132,Kml,Kch,Knj,143,Kah,Kpx,Kak,Kqe,Kbu,Kog,Kcp,Knk,Kdy,Kky,Kgm,Kkk,Kje,150,Kah,Keo,0x25c016,Kiz,150,Kah,Keo,0x25c016,Klw,Kkk,Kda,Kmg,140,Kkk,Kjy,Kkk,Kaf,Kcc,Klx,Kah,Kmy,Kaf,142,Klx,Kah,Kmy,Kaf,142,Kcv,Kcv,142,Koe,Kch,Kmx,Kah,Kin,Kak,Kmx,Kab,Kin,Kbu,Kqj,Kab,Knz,Kcp,Kpu,Kjq,Kab,Krm,Kaw,156,Kah,Kgi,156,Kqa,Kae,Kdn,Kac,Kdn,Kaq,Kdn,Ken,Knd,Kaw,Kqk,Kaw,Kgb,Kab,Kev,129,Kir,Kak,Kgb,Kab,Kev,Kaw,159,Kah,Khn,159,Koy,Kae,Kfk,Kac,Kfk,Kle,Kdh,Kks,Klm,Kdu,Klm,Kdu,Klm,Kdu,Klm,Kdu,Klm,Kdu,Klm,Kaw,Koh,Kah,Klh,20609,Kah,Kkp,0x288021,Kcf,Kmm,162,Kah,Kmv,0x28c022,Kii,Kqm]) 61 (Kk [Kad,129,Kbn,Kan,Kkj,129,Kah,Kjp,Kdb,Kai,Kft,Kft]) ⟨2, 0, 43, 4, [(0, 5), (0, 7), (0, 8), (0, 9), (0, 10), (0, 11), (0, 12), (0, 13), (1, 27), (0, 29), (0, 30), (0, 31), (0, 32), (0, 33), (0, 34), (0, 35), (0, 36), (3, 43)]⟩ fun f B T x1 x2 x3 x4 x5 x6 x7 x8 x9 x10 x11 x12 x13 x14 x15 x16 x17 x18 x19 x20 x21 x22 x23 x24 x25 x26 x27 x28 x29 x30 x31 x32 x33 x34 x35 x36 x37 x38 x39 x40 x41 x42 ld => ⟨(x26.2.2 15), by cases b <;> rfl'⟩
theorem ln10 (w b) (tx : Str) (k0 k1 k2 : Tk) (hx : First w b tx (tN k0 "a")) (h0 : NxtA w b tx (tN k0 "a") (tP k1 ",")) (h1 : NxtA w b tx (tP k1 ",") (tE k2)) : LnN w b tx k2.ln :=
  nl (fun f B T => vJ (tN k0 "a") hx fun x1 => let R := rdOf w.params tx x1.2.2; vc (cGoIn R (cuA 0 (tN k0 "a") (aY x1.2.2))) [2, 3] (n_goIn w b _ _ (dn (n := 0) (by omega))) rfl fun x2 => vc (cUnN R ((cuA (0 + 1) k0 ((aY x1.2.2).pY x2.2.2)).as sN (Z "a")) (tP k1 ",")) [4, 5, 6, 7, 8, 9] (n_un1 w b _ _ _ _ rfl (h0 R rfl rfl _ rfl rfl rfl) (by rfl') (by rfl') (by rfl') (by rfl') (by rfl')) rfl fun x3 => vc (cPrio R (cuA (0 + 1) (tP k1 ",") (aY x3.2.2)) true 0) [9, 10, 0, 1] (n_prioP w b _ _ _ 0 (by rfl') (by rfl')) rfl fun x4 => vcG 0 1 false rfl fun x5 => vc (cEatN R (cuA (0 + 1) (tP k1 ",") (aY x3.2.2)) (Z "?")) [9, 10, 0, 1] (n_eatN w b _ _ _ (n_sign1 w b _ _ _ false (by rfl') (by rfl'))) rfl fun x6 => vcE "punct" "punct" true (by rfl') fun x7 => vc (cInT 732 (Z ",") false) [] (n_inT w b 732 _ _ (by rfl')) rfl fun x8 => vc (cGoOut' R (cuA (0 + 1) (tP k1 ",") (aY x3.2.2)) 0) [9, 10] (n_goOut' w b _ _ _ (dm 0)) rfl fun x9 => vc (cSign R (cuA 0 (tP k1 ",") ((aY x3.2.2).pY x9.2.2)) (Z ",") true) [9, 10, 0, 1] (n_sign1 w b _ _ _ true (by rfl') (by rfl')) rfl fun x10 => vc (cEatY R (cuA 0 (tP k1 ",") ((aY x3.2.2).pY x9.2.2)) (Z ",") (tE k2)) [10, 11, 12, 13, 1, 2] (n_eatY w b _ _ _ _ (n_sign1 w b _ _ _ true (by rfl') (by rfl')) (h1 R rfl rfl _ rfl rfl rfl)) rfl fun x11 => vc (cGoIn R (cuA 0 (tE k2) (aY x11.2.2))) [13, 14] (n_goIn w b _ _ (dn (n := 0) (by omega))) rfl fun x12 => vcE "end" "punct" false (by rfl') fun x13 => vcE "end" "punct" false (by rfl') fun x14 => vcE "end" "keyword" false (by rfl') fun x15 => vc (cWord R (cuA (0 + 1) (tE k2) ((aY x11.2.2).pY x12.2.2)) (Z "new") false) [18, 19, 6, 7] (n_word0 w b _ _ _ (by rfl')) rfl fun x16 => vcE "end" "name" false (by rfl') fun x17 => vc (cInTs (x16.1 + 1) [.str (Z "number") (x17.2.1 + 1), .str (Z "text") (x17.2.1 + 2)] (Z "end") false) [0] (n_inTs w b _ _ _ _ (by rfl') (by rfl')) rfl fun x18 => vcE "end" "keyword" false (by rfl') fun x19 => vc (cEatN R (cuA (0 + 1) (tE k2) ((aY x11.2.2).pY x12.2.2)) (Z "(")) [20, 21, 8, 9] (n_eatN w b _ _ _ (n_sign0 w b _ _ _ (by rfl'))) rfl fun x20 => vc (cSign R (cuA (0 + 1) (tE k2) ((aY x11.2.2).pY x12.2.2)) (Z "[") false) [20, 21, 8, 9] (n_sign0 w b _ _ _ (by rfl')) rfl fun x21 => vc (cSign R (cuA (0 + 1) (tE k2) ((aY x11.2.2).pY x12.2.2)) (Z "{") false) [20, 21, 8, 9] (n_sign0 w b _ _ _ (by rfl')) rfl fun x22 => vc (cSign R (cuA (0 + 1) (tE k2) ((aY x11.2.2).pY x12.2.2)) (Z "/") false) [20, 21, 8, 9] (n_sign0 w b _ _ _ (by rfl')) rfl fun x23 => vc (cSign R (cuA (0 + 1) (tE k2) ((aY x11.2.2).pY x12.2.2)) (Z "/=") false) [20, 21, 8, 9] (n_sign0 w b _ _ _ (by rfl')) rfl fun x24 => vcE "end" "end" true (by rfl') fun x25 => ve) 1642 (Kk [Kji,Kga,Kci,Kdj,Knn,Kgm,Kif,Kje,Kgw,Kiz,Kgw,Klw,Kif,Kqs,Kif,Kjz,Kbf,Kbs,Knf,Kjy,Kal,Kal,140,Kmd,140,Kch,Kig,Kak,Kml,Kbu,Kqe,Kcp,Kog,Kaw,145,Kah,Kfc,0x248011,Kae,Kdn,Kac,Kdn,Kaq,Kdn,Ken,Knk,Kaw,Kom,Kaw,Kmj,129,Kjm,Kak,Kmj,Kaw,148,Kah,Kez,148,Kqc,Kae,Kfk,Kac,Kfk,Kle,Kdh,Kks,Kjd,Kdu,Kjd,Kdu,Kjd,Kdu,Kjd,Kdu,Kjd,Kdu,Kjd,Kaw,Kkk,19201,Kah,Keo,0x25c016,Kcf,Kmm,151,Kah,Kgj,0x260017,Kii,Kqm]) 61 (Kk [Kad,129,Kbn,Kan,Kkj,129,Kah,Kjp,Kdb,Kai,Kft,Kft]) ⟨2, 0, 32, 4, [(0, 5), (0, 7), (0, 8), (0, 9), (0, 10), (0, 11), (0, 12), (0, 13), (1, 25), (3, 32)]⟩ fun f B T x1 x2 x3 x4 x5 x6 x7 x8 x9 x10 x11 x12 x13 x14 x15 x16 x17 x18 x19 x20 x21 x22 x23 x24 x25 ld => ⟨(x11.2.2 15), by cases b <;> rfl'⟩
theorem ln11 (w b) (tx : Str) (k0 k1 k2 : Tk) (hx : First w b tx (tN k0 "a")) (h0 : NxtA w b tx (tN k0 "a") (tK k1 "in")) (h1 : NxtA w b tx (tK k1 "in") (tE k2)) : LnN w b tx k2.ln :=
  nl (fun f B T => vJ (tN k0 "a") hx fun x1 => let R := rdOf w.params tx x1.2.2; vc (cGoIn R (cuA 0 (tN k0 "a") (aY x1.2.2))) [2, 3] (n_goIn w b _ _ (dn (n := 0) (by omega))) rfl fun x2 => vc (cUnN R ((cuA (0 + 1) k0 ((aY x1.2.2).pY x2.2.2)).as sN (Z "a")) (tK k1 "in")) [4, 5, 6, 7, 8, 9] (n_un0 w b _ _ _ _ rfl (h0 R rfl rfl _ rfl rfl rfl) (by rfl')) rfl fun x3 => vc (cPrio R (cuA (0 + 1) (tK k1 "in") (aY x3.2.2)) true 7) [9, 10, 0, 1] (n_prioI_true w b _ _ (by rfl') (n_word_true w b _ _ _ (by rfl') (by rfl'))) rfl fun x4 => vcG 7 1 true rfl fun x5 => vc (cPrio R (cuA (0 + 1) (tK k1 "in") (aY x3.2.2)) true 7) [9, 10, 0, 1] (n_prioI_true w b _ _ (by rfl') (n_word_true w b _ _ _ (by rfl') (by rfl'))) rfl fun x6 => vc (cTake R (cuA (0 + 1) (tK k1 "in") (aY x3.2.2)) (tE k2)) [9, 10, 11, 12] (h1 R rfl rfl _ rfl rfl rfl) rfl fun x7 => vcE "end" "punct" false (by rfl') fun x8 => vcE "end" "punct" false (by rfl') fun x9 => vcE "end" "keyword" false (by rfl') fun x10 => vc (cWord R (cuA (0 + 1) (tE k2) (aY x7.2.2)) (Z "new") false) [15, 16, 4, 5] (n_word0 w b _ _ _ (by rfl')) rfl fun x11 => vcE "end" "name" false (by rfl') fun x12 => vc (cInTs (x11.1 + 1) [.str (Z "number") (x12.2.1 + 1), .str (Z "text") (x12.2.1 + 2)] (Z "end") false) [0] (n_inTs w b _ _ _ _ (by rfl') (by rfl')) rfl fun x13 => vcE "end" "keyword" false (by rfl') fun x14 => vc (cEatN R (cuA (0 + 1) (tE k2) (aY x7.2.2)) (Z "(")) [17, 18, 6, 7] (n_eatN w b _ _ _ (n_sign0 w b _ _ _ (by rfl'))) rfl fun x15 => vc (cSign R (cuA (0 + 1) (tE k2) (aY x7.2.2)) (Z "[") false) [17, 18, 6, 7] (n_sign0 w b _ _ _ (by rfl')) rfl fun x16 => vc (cSign R (cuA (0 + 1) (tE k2) (aY x7.2.2)) (Z "{") false) [17, 18, 6, 7] (n_sign0 w b _ _ _ (by rfl')) rfl fun x17 => vc (cSign R (cuA (0 + 1) (tE k2) (aY x7.2.2)) (Z "/") false) [17, 18, 6, 7] (n_sign0 w b _ _ _ (by rfl')) rfl fun x18 => vc (cSign R (cuA (0 + 1) (tE k2) (aY x7.2.2)) (Z "/=") false) [17, 18, 6, 7] (n_sign0 w b _ _ _ (by rfl')) rfl fun x19 => vcE "end" "end" true (by rfl') fun x20 => ve) 1347 (Kk [Kji,Kga,Kci,Kdj,Knn,Kdi,Knn,Knq,Kif,Knw,Kki,Kna,Kmd,Kaw,142,Kah,Kej,142,Kdp,Kae,Kfw,Kac,Kfw,Kaq,Kfw,Ken,Kml,Kaw,Kqe,Kaw,Kog,129,Kku,Kah,Kjh,Kak,Kog,Kaw,145,Kah,Kfc,0x248011,Kae,Kfa,Kac,Kfa,Kle,135,Klv,Kks,Kfl,Kdu,Kfl,Kdu,Kfl,Kdu,Kfl,Kdu,Kfl,Kdu,Kfl,Kaw,Kjm,129,Kpv,Kfk,Kmm,148,Kah,Kez,148,Kqc,Kcz,Kax,128,Kbk,Kpd]) 61 (Kk [Kad,129,Kbn,Kan,Kkj,129,Kah,Kjp,Kdb,Kai,Kft,Kft]) ⟨2, 0, 29, 4, [(0, 5), (0, 7), (0, 8), (0, 9), (0, 10), (0, 11), (1, 19), (0, 20), (0, 21), (0, 22), (3, 29)]⟩ fun f B T x1 x2 x3 x4 x5 x6 x7 x8 x9 x10 x11 x12 x13 x14 x15 x16 x17 x18 x19 x20 ld => ⟨(x7.2.2 15), by cases b <;> rfl'⟩
theorem ln12 (w b) (tx : Str) (k0 k1 k2 : Tk) (hx : First w b tx (tN k0 "a")) (h0 : NxtA w b tx (tN k0 "a") (tP k1 "||")) (h1 : NxtA w b tx (tP k1 "||") (tE k2)) : LnN w b tx k2.ln :=
  nl (fun f B T => vJ (tN k0 "a") hx fun x1 => let R := rdOf w.params tx x1.2.2; vc (cGoIn R (cuA 0 (tN k0 "a") (aY x1.2.2))) [2, 3] (n_goIn w b _ _ (dn (n := 0) (by omega))) rfl fun x2 => vc (cUnN R ((cuA (0 + 1) k0 ((aY x1.2.2).pY x2.2.2)).as sN (Z "a")) (tP k1 "||")) [4, 5, 6, 7, 8, 9] (n_un1 w b _ _ _ _ rfl (h0 R rfl rfl _ rfl rfl rfl) (by rfl') (by rfl') (by rfl') (by rfl') (by rfl')) rfl fun x3 => vc (cPrio R (cuA (0 + 1) (tP k1 "||") (aY x3.2.2)) true 1) [9, 10, 0, 1] (n_prioP w b _ _ _ 1 (by rfl') (by rfl')) rfl fun x4 => vcG 1 1 true rfl fun x5 => vc (cPrio R (cuA (0 + 1) (tP k1 "||") (aY x3.2.2)) true 1) [9, 10, 0, 1] (n_prioP w b _ _ _ 1 (by rfl') (by rfl')) rfl fun x6 => vc (cTake R (cuA (0 + 1) (tP k1 "||") (aY x3.2.2)) (tE k2)) [9, 10, 11, 12] (h1 R rfl rfl _ rfl rfl rfl) rfl fun x7 => vcE "end" "punct" false (by rfl') fun x8 => vcE "end" "punct" false (by rfl') fun x9 => vcE "end" "keyword" false (by rfl') fun x10 => vc (cWord R (cuA (0 + 1) (tE k2) (aY x7.2.2)) (Z "new") false) [15, 16, 4, 5] (n_word0 w b _ _ _ (by rfl')) rfl fun x11 => vcE "end" "name" false (by rfl') fun x12 => vc (cInTs (x11.1 + 1) [.str (Z "number") (x12.2.1 + 1), .str (Z "text") (x12.2.1 + 2)] (Z "end") false) [0] (n_inTs w b _ _ _ _ (by rfl') (by rfl')) rfl fun x13 => vcE "end" "keyword" false (by rfl') fun x14 => vc (cEatN R (cuA (0 + 1) (tE k2) (aY x7.2.2)) (Z "(")) [17, 18, 6, 7] (n_eatN w b _ _ _ (n_sign0 w b _ _ _ (by rfl'))) rfl fun x15 => vc (cSign R (cuA (0 + 1) (tE k2) (aY x7.2.2)) (Z "[") false) [17, 18, 6, 7] (n_sign0 w b _ _ _ (by rfl')) rfl fun x16 => vc (cSign R (cuA (0 + 1) (tE k2) (aY x7.2.2)) (Z "{") false) [17, 18, 6, 7] (n_sign0 w b _ _ _ (by rfl')) rfl fun x17 => vc (cSign R (cuA (0 + 1) (tE k2) (aY x7.2.2)) (Z "/") false) [17, 18, 6, 7] (n_sign0 w b _ _ _ (by rfl')) rfl fun x18 => vc (cSign R (cuA (0 + 1) (tE k2) (aY x7.2.2)) (Z "/=") false) [17, 18, 6, 7] (n_sign0 w b _ _ _ (by rfl')) rfl fun x19 => vcE "end" "end" true (by rfl') fun x20 => ve) 1347 (Kk [Kji,Kga,Kci,Kdj,Knn,Kdi,Knn,Knq,Kif,Knw,Kki,Kna,Kmd,Kaw,142,Kah,Kej,142,Kdp,Kae,Kfw,Kac,Kfw,Kaq,Kfw,Ken,Kml,Kaw,Kqe,Kaw,Kog,129,Kku,Kah,Kjh,Kak,Kog,Kaw,145,Kah,Kfc,0x248011,Kae,Kfa,Kac,Kfa,Kle,135,Klv,Kks,Kfl,Kdu,Kfl,Kdu,Kfl,Kdu,Kfl,Kdu,Kfl,Kdu,Kfl,Kaw,Kjm,129,Kpv,Kfk,Kmm,148,Kah,Kez,148,Kqc,Kcz,Kax,128,Kbk,Kpd]) 61 (Kk [Kad,129,Kbn,Kan,Kkj,129,Kah,Kjp,Kdb,Kai,Kft,Kft]) ⟨2, 0, 29, 4, [(0, 5), (0, 7), (0, 8), (0, 9), (0, 10), (0, 11), (1, 19), (0, 20), (0, 21), (0, 22), (3, 29)]⟩ fun f B T x1 x2 x3 x4 x5 x6 x7 x8 x9 x10 x11 x12 x13 x14 x15 x16 x17 x18 x19 x20 ld => ⟨(x7.2.2 15), by cases b <;> rfl'⟩
theorem lt0 (w b) (tx : Str) (k0 k1 k2 k3 k4 : Tk) (sg : Str) (hx : First w b tx (tN k0 "f")) (hs : sg ∈ signsL) (h0 : NxtA w b tx (tN k0 "f") (tP k1 "(")) (h1 : NxtA w b tx (tP k1 "(") (tN k2 "a")) (h2 : NxtA w b tx (tN k2 "a") (tP k3 ")")) (h3 : NxtA w b tx (tP k3 ")") (k4.as sP sg)) : LnN w b tx k4.ln :=
  nl (fun f B T => vJ (tN k0 "f") hx fun x1 => let R := rdOf w.params tx x1.2.2; vc (cGoIn R (cuA 0 (tN k0 "f") (aY x1.2.2))) [2, 3] (n_goIn w b _ _ (dn (n := 0) (by omega))) rfl fun x2 => vcE "name" "punct" false (by rfl') fun x3 => vcE "name" "punct" false (by rfl') fun x4 => vcE "name" "keyword" false (by rfl') fun x5 => vc (cWord R (cuA (0 + 1) (tN k0 "f") ((aY x1.2.2).pY x2.2.2)) (Z "new") false) [7, 8, 11, 12] (n_word0 w b _ _ _ (by rfl')) rfl fun x6 => vcE "name" "name" true (by rfl') fun x7 => vc (cStrNe (Z "name") (Z "name") false) [] (n_str_ne w b _ _ _ (by rfl')) rfl fun x8 => vc (cTake R (cuA (0 + 1) (tN k0 "f") ((aY x1.2.2).pY x2.2.2)) (tP k1 "(")) [11, 12, 13, 14] (h0 R rfl rfl _ rfl rfl rfl) rfl fun x9 => vc (cNode R.P (Z "Name") k0.ln x9.1) [] (n_nodeP w b rfl _ _ _) rfl fun x10 => vc (cSign R (cuA (0 + 1) (tP k1 "(") (aY x9.2.2)) (Z ".") false) [17, 18, 4, 5] (n_sign1 w b _ _ _ false (by rfl') (by rfl')) rfl fun x11 => vc (cSign R (cuA (0 + 1) (tP k1 "(") (aY x9.2.2)) (Z "[") false) [17, 18, 4, 5] (n_sign1 w b _ _ _ false (by rfl') (by rfl')) rfl fun x12 => vc (cSign R (cuA (0 + 1) (tP k1 "(") (aY x9.2.2)) (Z "(") true) [17, 18, 4, 5] (n_sign1 w b _ _ _ true (by rfl') (by rfl')) rfl fun x13 => vc (cNeed R (cuA (0 + 1) (tP k1 "(") (aY x9.2.2)) (Z "(") (tN k2 "a")) [18, 19, 20, 21, 5, 6] (n_need w b _ _ _ _ (n_eatY w b _ _ _ _ (n_sign1 w b _ _ _ true (by rfl') (by rfl')) (h1 R rfl rfl _ rfl rfl rfl))) rfl fun x14 => vc (cSign R (cuA (0 + 1) (tN k2 "a") (aY x14.2.2)) (Z ")") false) [21, 22, 1, 2] (n_sign0 w b _ _ _ (by rfl')) rfl fun x15 => vc (cGoIn R (cuA (0 + 1) (tN k2 "a") (aY x14.2.2))) [22, 23] (n_goIn w b _ _ (dn (n := (0 + 1)) (by omega))) rfl fun x16 => vc (cUnN R ((cuA (0 + 1 + 1) k2 ((aY x14.2.2).pY x16.2.2)).as sN (Z "a")) (tP k3 ")")) [24, 25, 26, 27, 4, 5] (n_un1 w b _ _ _ _ rfl (h2 R rfl rfl _ rfl rfl rfl) (by rfl') (by rfl') (by rfl') (by rfl') (by rfl')) rfl fun x17 => vc (cPrio R (cuA (0 + 1 + 1) (tP k3 ")") (aY x17.2.2)) true 0) [29, 30, 0, 1] (n_prioP w b _ _ _ 0 (by rfl') (by rfl')) rfl fun x18 => vcG 0 1 false rfl fun x19 => vc (cEatN R (cuA (0 + 1 + 1) (tP k3 ")") (aY x17.2.2)) (Z "?")) [29, 30, 0, 1] (n_eatN w b _ _ _ (n_sign1 w b _ _ _ false (by rfl') (by rfl'))) rfl fun x20 => vcE "punct" "punct" true (by rfl') fun x21 => vc (cInT 732 (Z ")") false) [] (n_inT w b 732 _ _ (by rfl')) rfl fun x22 => vc (cGoOut' R (cuA (0 + 1 + 1) (tP k3 ")") (aY x17.2.2)) (0 + 1)) [29, 30] (n_goOut' w b _ _ _ (dm (0 + 1))) rfl fun x23 => vc (cEatN R (cuA (0 + 1) (tP k3 ")") ((aY x17.2.2).pY x23.2.2)) (Z ",")) [29, 30, 0, 1] (n_eatN w b _ _ _ (n_sign1 w b _ _ _ false (by rfl') (by rfl'))) rfl fun x24 => vc (cNeed R (cuA (0 + 1) (tP k3 ")") ((aY x17.2.2).pY x23.2.2)) (Z ")") (k4.as sP sg)) [29, 30, 31, 32, 0, 1] (n_need w b _ _ _ _ (n_eatY w b _ _ _ _ (n_sign1 w b _ _ _ true (by rfl') (by rfl')) (h3 R rfl rfl _ rfl rfl rfl))) rfl fun x25 => vc (cNode R.P (Z "Call") k0.ln x25.1) [] (n_nodeP w b rfl _ _ _) rfl fun x26 => vc (cSign R (cuA (0 + 1) (k4.as sP sg) (aY x25.2.2)) (Z ".") false) [35, 36, 4, 5] (n_sign1 w b _ _ _ false (by rfl') (sg_ne hs _ (by rfl'))) rfl fun x27 => vc (cSign R (cuA (0 + 1) (k4.as sP sg) (aY x25.2.2)) (Z "[") false) [35, 36, 4, 5] (n_sign1 w b _ _ _ false (by rfl') (sg_ne hs _ (by rfl'))) rfl fun x28 => vc (cSign R (cuA (0 + 1) (k4.as sP sg) (aY x25.2.2)) (Z "(") false) [35, 36, 4, 5] (n_sign1 w b _ _ _ false (by rfl') (sg_ne hs _ (by rfl'))) rfl fun x29 => vc (cStrNe (Z "punct") (Z "punct") false) [] (n_str_ne w b _ _ _ (by rfl')) rfl fun x30 => vc (cInT 735 sg false) [] (n_inT w b 735 _ _ (sg735 hs)) rfl fun x31 => vc (cPrio R (cuA (0 + 1) (k4.as sP sg) (aY x25.2.2)) true 0) [35, 36, 4, 5] (n_prioSg w b _ _ _ (by rfl') hs) rfl fun x32 => vcG 0 1 false rfl fun x33 => vc (cEatN R (cuA (0 + 1) (k4.as sP sg) (aY x25.2.2)) (Z "?")) [35, 36, 4, 5] (n_eatN w b _ _ _ (n_sign1 w b _ _ _ false (by rfl') (sg_ne hs _ (by rfl')))) rfl fun x34 => vcE "punct" "punct" true (by rfl') fun x35 => vc (cInT 732 sg true) [] (n_inT w b 732 _ _ (sg732 hs)) rfl fun x36 => vcE "Call" "Name" false (by rfl') fun x37 => vc (cInT 512 (Z "Call") false) [] (n_inT w b 512 _ _ (by rfl')) rfl fun x38 => ve) 2567 (Kk [Kqi,Kqv,Kol,Kaf,Kol,Kgv,Kaw,Kgw,Kjj,Kak,Kif,Knx,Kjj,Knx,Kch,Knr,Knl,Kaf,Kow,Knc,Kmi,Kmi,Kpi,Kfl,Kpp,Kom,Kba,Kbr,Kcv,Kom,Kaw,Kjm,Kaf,Kbp,132,Kkk,Kny,Kaq,132,Kky,Kch,Khr,Kqz,Kak,Kkw,Kbu,Koe,Kcp,Kmx,Kab,Kin,Kdy,Kgb,Kab,Kev,Kgm,Kir,Kje,158,Kah,Keu,Krk,159,Kiz,158,Kah,Keu,Krk,159,Klw,Kir,Kda,Kmg,140,Kir,Kjy,Kir,Kaf,142,Kaa,Kao,Kfp,Koi,Kah,Kou,Kak,Koi,Kah,Kou,Kak,Krl,Kqa,Koi,Kah,Kou,Kaf,Khz,0x290f1e,Kah,Kkd,164,Krr,Kdn,Kaf,21022,Kah,Kkd,164,Krr,Kdn,Kpr,0x28101e,Koy,Koi,Kab,Kou,160,Kaf,16544,Kgq,20641,Koi,Kah,Kou,Kaf,Klh,0x291122,Kah,Kkd,164,Krr,Kdn,Kaf,21026,Kah,Kkd,164,Krr,Kdn,Kpr,162,Koi,Kab,Kou,162,Kch,165,Kpq,Kpq,Kah,21285,Kaf,Kfw,129,Kfw,Kac,165,Kah,165,Kpq,0x298025,Kms,Kkb,Ken,Kot,Kka,Kah,Kri,Kao,Kgx,168,Kah,Khm,0x2a4028,Kcz,Kax,128,Kbk,Kpd]) 61 (Kk [Kad,129,Kbn,Kan,Kkj,129,Kah,Kjp,Kdb,Kai,Kft,Kft]) ⟨2, 0, 49, 4, [(0, 5), (0, 7), (0, 41), (0, 42), (3, 49)]⟩ fun f B T x1 x2 x3 x4 x5 x6 x7 x8 x9 x10 x11 x12 x13 x14 x15 x16 x17 x18 x19 x20 x21 x22 x23 x24 x25 x26 x27 x28 x29 x30 x31 x32 x33 x34 x35 x36 x37 x38 ld => ⟨(x25.2.2 15), by cases b <;> rfl'⟩
theorem lt1 (w b) (tx : Str) (k0 k1 k2 k3 k4 k5 : Tk) (sg : Str) (hx : First w b tx (tP k0 "(")) (hs : sg ∈ signsL) (h0 : NxtA w b tx (tP k0 "(") (tN k1 "a")) (h1 : NxtA w b tx (tN k1 "a") (tP k2 "+")) (h2 : NxtA w b tx (tP k2 "+") (tN k3 "b")) (h3 : NxtA w b tx (tN k3 "b") (tP k4 ")")) (h4 : NxtA w b tx (tP k4 ")") (k5.as sP sg)) : LnN w b tx k5.ln :=
  nl (fun f B T => vJ (tP k0 "(") hx fun x1 => let R := rdOf w.params tx x1.2.2; vc (cGoIn R (cuA 0 (tP k0 "(") (aY x1.2.2))) [2, 3] (n_goIn w b _ _ (dn (n := 0) (by omega))) rfl fun x2 => vcE "punct" "punct" true (by rfl') fun x3 => vc (cInT 735 (Z "(") false) [] (n_inT w b 735 _ _ (by rfl')) rfl fun x4 => vcE "punct" "punct" true (by rfl') fun x5 => vc (cInT 733 (Z "(") false) [] (n_inT w b 733 _ _ (by rfl')) rfl fun x6 => vcE "punct" "keyword" false (by rfl') fun x7 => vc (cWord R (cuA (0 + 1) (tP k0 "(") ((aY x1.2.2).pY x2.2.2)) (Z "new") false) [7, 8, 11, 12] (n_word0 w b _ _ _ (by rfl')) rfl fun x8 => vcE "punct" "name" false (by rfl') fun x9 => vc (cInTs (x8.1 + 1) [.str (Z "number") (x9.2.1 + 1), .str (Z "text") (x9.2.1 + 2)] (Z "punct") false) [0] (n_inTs w b _ _ _ _ (by rfl') (by rfl')) rfl fun x10 => vcE "punct" "keyword" false (by rfl') fun x11 => vc (cEatY R (cuA (0 + 1) (tP k0 "(") ((aY x1.2.2).pY x2.2.2)) (Z "(") (tN k1 "a")) [9, 10, 11, 12, 13, 14] (n_eatY w b _ _ _ _ (n_sign1 w b _ _ _ true (by rfl') (by rfl')) (h0 R rfl rfl _ rfl rfl rfl)) rfl fun x12 => vc (cGoIn R (cuA (0 + 1) (tN k1 "a") (aY x12.2.2))) [13, 14] (n_goIn w b _ _ (dn (n := (0 + 1)) (by omega))) rfl fun x13 => vc (cUnN R ((cuA (0 + 1 + 1) k1 ((aY x12.2.2).pY x13.2.2)).as sN (Z "a")) (tP k2 "+")) [15, 16, 17, 18, 4, 5] (n_un1 w b _ _ _ _ rfl (h1 R rfl rfl _ rfl rfl rfl) (by rfl') (by rfl') (by rfl') (by rfl') (by rfl')) rfl fun x14 => vc (cPrio R (cuA (0 + 1 + 1) (tP k2 "+") (aY x14.2.2)) true 9) [20, 21, 0, 1] (n_prioP w b _ _ _ 9 (by rfl') (by rfl')) rfl fun x15 => vcG 9 1 true rfl fun x16 => vc (cPrio R (cuA (0 + 1 + 1) (tP k2 "+") (aY x14.2.2)) true 9) [20, 21, 0, 1] (n_prioP w b _ _ _ 9 (by rfl') (by rfl')) rfl fun x17 => vc (cTake R (cuA (0 + 1 + 1) (tP k2 "+") (aY x14.2.2)) (tN k3 "b")) [20, 21, 22, 23] (h2 R rfl rfl _ rfl rfl rfl) rfl fun x18 => vc (cUnN R ((cuA (0 + 1 + 1) k3 (aY x18.2.2)).as sN (Z "b")) (tP k4 ")")) [23, 24, 25, 26, 1, 2] (n_un1 w b _ _ _ _ rfl (h3 R rfl rfl _ rfl rfl rfl) (by rfl') (by rfl') (by rfl') (by rfl') (by rfl')) rfl fun x19 => vc (cPrio R (cuA (0 + 1 + 1) (tP k4 ")") (aY x19.2.2)) true 0) [28, 29, 0, 1] (n_prioP w b _ _ _ 0 (by rfl') (by rfl')) rfl fun x20 => vcG 0 10 false rfl fun x21 => vc (cNode R.P (Z "Binary") k1.ln x20.1) [] (n_nodeP w b rfl _ _ _) rfl fun x22 => vc (cPrio R (cuA (0 + 1 + 1) (tP k4 ")") (aY x19.2.2)) true 0) [31, 32, 3, 4] (n_prioP w b _ _ _ 0 (by rfl') (by rfl')) rfl fun x23 => vcG 0 1 false rfl fun x24 => vc (cEatN R (cuA (0 + 1 + 1) (tP k4 ")") (aY x19.2.2)) (Z "?")) [31, 32, 3, 4] (n_eatN w b _ _ _ (n_sign1 w b _ _ _ false (by rfl') (by rfl'))) rfl fun x25 => vcE "punct" "punct" true (by rfl') fun x26 => vc (cInT 732 (Z ")") false) [] (n_inT w b 732 _ _ (by rfl')) rfl fun x27 => vc (cGoOut' R (cuA (0 + 1 + 1) (tP k4 ")") (aY x19.2.2)) (0 + 1)) [31, 32] (n_goOut' w b _ _ _ (dm (0 + 1))) rfl fun x28 => vc (cSign R (cuA (0 + 1) (tP k4 ")") ((aY x19.2.2).pY x28.2.2)) (Z ",") false) [31, 32, 3, 4] (n_sign1 w b _ _ _ false (by rfl') (by rfl')) rfl fun x29 => vc (cNeed R (cuA (0 + 1) (tP k4 ")") ((aY x19.2.2).pY x28.2.2)) (Z ")") (k5.as sP sg)) [31, 32, 33, 34, 3, 4] (n_need w b _ _ _ _ (n_eatY w b _ _ _ _ (n_sign1 w b _ _ _ true (by rfl') (by rfl')) (h4 R rfl rfl _ rfl rfl rfl))) rfl fun x30 => vc (cSign R (cuA (0 + 1) (k5.as sP sg) (aY x30.2.2)) (Z ".") false) [34, 35, 1, 2] (n_sign1 w b _ _ _ false (by rfl') (sg_ne hs _ (by rfl'))) rfl fun x31 => vc (cSign R (cuA (0 + 1) (k5.as sP sg) (aY x30.2.2)) (Z "[") false) [34, 35, 1, 2] (n_sign1 w b _ _ _ false (by rfl') (sg_ne hs _ (by rfl'))) rfl fun x32 => vc (cSign R (cuA (0 + 1) (k5.as sP sg) (aY x30.2.2)) (Z "(") false) [34, 35, 1, 2] (n_sign1 w b _ _ _ false (by rfl') (sg_ne hs _ (by rfl'))) rfl fun x33 => vc (cStrNe (Z "punct") (Z "punct") false) [] (n_str_ne w b _ _ _ (by rfl')) rfl fun x34 => vc (cInT 735 sg false) [] (n_inT w b 735 _ _ (sg735 hs)) rfl fun x35 => vc (cPrio R (cuA (0 + 1) (k5.as sP sg) (aY x30.2.2)) true 0) [34, 35, 1, 2] (n_prioSg w b _ _ _ (by rfl') hs) rfl fun x36 => vcG 0 1 false rfl fun x37 => vc (cEatN R (cuA (0 + 1) (k5.as sP sg) (aY x30.2.2)) (Z "?")) [34, 35, 1, 2] (n_eatN w b _ _ _ (n_sign1 w b _ _ _ false (by rfl') (sg_ne hs _ (by rfl')))) rfl fun x38 => vcE "punct" "punct" true (by rfl') fun x39 => vc (cInT 732 sg true) [] (n_inT w b 732 _ _ (sg732 hs)) rfl fun x40 => vcE "Binary" "Name" false (by rfl') fun x41 => vc (cInT 512 (Z "Binary") false) [] (n_inT w b 512 _ _ (by rfl')) rfl fun x42 => ve) 2463 (Kk [Klz,Kdb,Kiu,Kfb,Kqv,Kew,Kac,Kew,Kle,Kjj,Kks,Kif,Kny,Kki,Kch,Kmd,Kbu,Kig,Kak,Kml,Kbu,Kqe,Kcp,Kog,Kdy,Kmk,Kdi,Kmk,Knq,Kjd,Knw,Kkw,Kna,Koe,Kdy,Kqk,Kph,Kjc,Kab,Kgq,Kpw,Kes,Kro,Klm,Kaf,Kdk,Kjg,160,Kah,Kgp,0x284020,Kfn,20499,Kah,Kgp,0x284020,Knb,147,Klm,Kaf,Kei,Kjr,Klm,Kaf,0x13060c14,Klm,Kaf,154,Kab,Kfp,Kqg,Kah,Krj,Kak,Kqg,Kah,Krj,Kak,Kmw,Kqb,Kqg,Kah,Krj,Kaf,Kgr,Krl,163,Kah,Kmu,0x290023,Kop,20893,Kah,Kmu,0x290023,Kbr,Kpr,0x9f007cf9d,Kqg,Kab,Krj,159,Kaf,16543,Kho,20512,Kqg,Kah,Krj,Kaf,Kgq,0x28d0a1,Kah,Kmu,0x290023,Kop,20897,Kah,Kmu,0x290023,Kbr,Kpr,161,Kqg,Kab,Krj,161,Kch,Koi,Kah,Kou,Kaf,Kdn,129,Kdn,Kac,164,Kah,Kkd,164,Krr,Kms,Kkb,Ken,166,Kmq,Kmq,Kah,21414,Kao,Kgx,167,Kah,Kot,0x2a0027,Kfa,Kqm]) 61 (Kk [Kad,129,Kbn,Kan,Kkj,129,Kah,Kjp,Kdb,Kai,Kft,Kft]) ⟨2, 0, 48, 4, [(0, 5), (0, 7), (0, 40), (0, 41), (3, 48)]⟩ fun f B T x1 x2 x3 x4 x5 x6 x7 x8 x9 x10 x11 x12 x13 x14 x15 x16 x17 x18 x19 x20 x21 x22 x23 x24 x25 x26 x27 x28 x29 x30 x31 x32 x33 x34 x35 x36 x37 x38 x39 x40 x41 x42 ld => ⟨(x30.2.2 15), by cases b <;> rfl'⟩
theorem lt2 (w b) (tx : Str) (k0 k1 k2 : Tk) (sg : Str) (hx : First w b tx (tP k0 "-")) (hs : sg ∈ signsL) (h0 : NxtA w b tx (tP k0 "-") (tN k1 "a")) (h1 : NxtA w b tx (tN k1 "a") (k2.as sP sg)) : LnN w b tx k2.ln :=
  nl (fun f B T => vJ (tP k0 "-") hx fun x1 => let R := rdOf w.params tx x1.2.2; vc (cGoIn R (cuA 0 (tP k0 "-") (aY x1.2.2))) [2, 3] (n_goIn w b _ _ (dn (n := 0) (by omega))) rfl fun x2 => vcE "punct" "punct" true (by rfl') fun x3 => vc (cInT 735 (Z "-") false) [] (n_inT w b 735 _ _ (by rfl')) rfl fun x4 => vcE "punct" "punct" true (by rfl') fun x5 => vc (cInT 733 (Z "-") true) [] (n_inT w b 733 _ _ (by rfl')) rfl fun x6 => vcE "punct" "keyword" false (by rfl') fun x7 => vc (cTake R (cuA (0 + 1) (tP k0 "-") ((aY x1.2.2).pY x2.2.2)) (tN k1 "a")) [6, 7, 8, 9] (h0 R rfl rfl _ rfl rfl rfl) rfl fun x8 => vc (cGoIn R (cuA (0 + 1) (tN k1 "a") (aY x8.2.2))) [8, 9] (n_goIn w b _ _ (dn (n := (0 + 1)) (by omega))) rfl fun x9 => vc (cUnN R ((cuA (0 + 1 + 1) k1 ((aY x8.2.2).pY x9.2.2)).as sN (Z "a")) (k2.as sP sg)) [8, 9, 10, 11, 0, 1] (n_un1 w b _ _ _ _ rfl (h1 R rfl rfl _ rfl rfl rfl) (by rfl') (sg_ne hs _ (by rfl')) (sg_ne hs _ (by rfl')) (sg_ne hs _ (by rfl')) (sg735 hs)) rfl fun x10 => vc (cGoOut' R (cuA (0 + 1 + 1) (k2.as sP sg) (aY x10.2.2)) (0 + 1)) [13, 14] (n_goOut' w b _ _ _ (dm (0 + 1))) rfl fun x11 => vcE "-" "delete" false (by rfl') fun x12 => vc (cNode R.P (Z "Unary") k0.ln x11.1) [] (n_nodeP w b rfl _ _ _) rfl fun x13 => vc (cPrio R (cuA (0 + 1) (k2.as sP sg) ((aY x10.2.2).pY x11.2.2)) true 0) [16, 17, 3, 4] (n_prioSg w b _ _ _ (by rfl') hs) rfl fun x14 => vcG 0 1 false rfl fun x15 => vc (cEatN R (cuA (0 + 1) (k2.as sP sg) ((aY x10.2.2).pY x11.2.2)) (Z "?")) [16, 17, 3, 4] (n_eatN w b _ _ _ (n_sign1 w b _ _ _ false (by rfl') (sg_ne hs _ (by rfl')))) rfl fun x16 => vcE "punct" "punct" true (by rfl') fun x17 => vc (cInT 732 sg true) [] (n_inT w b 732 _ _ (sg732 hs)) rfl fun x18 => vcE "Unary" "Name" false (by rfl') fun x19 => vc (cInT 512 (Z "Unary") false) [] (n_inT w b 512 _ _ (by rfl')) rfl fun x20 => ve) 1300 (Kk [Klz,Kdb,Kiu,Kfb,Kcf,Kaj,Kjl,Kfj,Kah,Kls,Kaf,Kai,Kgv,Klp,Kkl,Kaf,Kdr,Kig,Kqs,Kow,129,Kcx,Kow,137,Kow,137,Kbn,Kcn,Kfz,Knk,141,Kaf,0x23408d,Kkn,Kkx,Kaf,Keb,Kfd,145,Kah,Kfc,0x248011,Kfn,18575,Kah,Kfc,0x248011,Knb,143,Knk,143,Kch,Kfl,Kaf,Kqo,Krn,Kms,Kkb,Ken,Kni,Kao,Kgx,149,Kah,Kep,149,Koz,Kex,Kpl,Kby,Kpd]) 61 (Kk [Kad,129,Kbn,Kan,Kkj,129,Kah,Kjp,Kdb,Kai,Kft,Kft]) ⟨2, 0, 30, 4, [(0, 5), (0, 7), (0, 22), (0, 23), (3, 30)]⟩ fun f B T x1 x2 x3 x4 x5 x6 x7 x8 x9 x10 x11 x12 x13 x14 x15 x16 x17 x18 x19 x20 ld => ⟨(x10.2.2 15), by cases b <;> rfl'⟩
theorem lt5 (w b) (tx : Str) (k0 k1 k2 : Tk) (sg : Str) (hx : First w b tx (tN k0 "a")) (hs : sg ∈ signsL) (h0 : NxtA w b tx (tN k0 "a") ((tP k1 "++").nb)) (h1 : NxtA w b tx ((tP k1 "++").nb) (k2.as sP sg)) : LnN w b tx k2.ln :=
  nl (fun f B T => vJ (tN k0 "a") hx fun x1 => let R := rdOf w.params tx x1.2.2; vc (cGoIn R (cuA 0 (tN k0 "a") (aY x1.2.2))) [2, 3] (n_goIn w b _ _ (dn (n := 0) (by omega))) rfl fun x2 => vcE "name" "punct" false (by rfl') fun x3 => vcE "name" "punct" false (by rfl') fun x4 => vcE "name" "keyword" false (by rfl') fun x5 => vc (cWord R (cuA (0 + 1) (tN k0 "a") ((aY x1.2.2).pY x2.2.2)) (Z "new") false) [7, 8, 11, 12] (n_word0 w b _ _ _ (by rfl')) rfl fun x6 => vcE "name" "name" true (by rfl') fun x7 => vc (cStrNe (Z "name") (Z "name") false) [] (n_str_ne w b _ _ _ (by rfl')) rfl fun x8 => vc (cTake R (cuA (0 + 1) (tN k0 "a") ((aY x1.2.2).pY x2.2.2)) ((tP k1 "++").nb)) [11, 12, 13, 14] (h0 R rfl rfl _ rfl rfl rfl) rfl fun x9 => vc (cNode R.P (Z "Name") k0.ln x9.1) [] (n_nodeP w b rfl _ _ _) rfl fun x10 => vc (cSign R (cuA (0 + 1) ((tP k1 "++").nb) (aY x9.2.2)) (Z ".") false) [17, 18, 4, 5] (n_sign1 w b _ _ _ false (by rfl') (by rfl')) rfl fun x11 => vc (cSign R (cuA (0 + 1) ((tP k1 "++").nb) (aY x9.2.2)) (Z "[") false) [17, 18, 4, 5] (n_sign1 w b _ _ _ false (by rfl') (by rfl')) rfl fun x12 => vc (cSign R (cuA (0 + 1) ((tP k1 "++").nb) (aY x9.2.2)) (Z "(") false) [17, 18, 4, 5] (n_sign1 w b _ _ _ false (by rfl') (by rfl')) rfl fun x13 => vc (cStrNe (Z "punct") (Z "punct") false) [] (n_str_ne w b _ _ _ (by rfl')) rfl fun x14 => vc (cInT 735 (Z "++") true) [] (n_inT w b 735 _ _ (by rfl')) rfl fun x15 => vcE "Name" "Name" true (by rfl') fun x16 => vc (cInT 512 (Z "Name") true) [] (n_inT w b 512 _ _ (by rfl')) rfl fun x17 => vcE "Name" "Name" true (by rfl') fun x18 => vc (cTake R (cuA (0 + 1) ((tP k1 "++").nb) (aY x9.2.2)) (k2.as sP sg)) [22, 23, 24, 25] (h1 R rfl rfl _ rfl rfl rfl) rfl fun x19 => vc (cNode R.P (Z "Update") k0.ln x19.1) [] (n_nodeP w b rfl _ _ _) rfl fun x20 => vc (cPrio R (cuA (0 + 1) (k2.as sP sg) (aY x19.2.2)) true 0) [27, 28, 3, 4] (n_prioSg w b _ _ _ (by rfl') hs) rfl fun x21 => vcG 0 1 false rfl fun x22 => vc (cEatN R (cuA (0 + 1) (k2.as sP sg) (aY x19.2.2)) (Z "?")) [27, 28, 3, 4] (n_eatN w b _ _ _ (n_sign1 w b _ _ _ false (by rfl') (sg_ne hs _ (by rfl')))) rfl fun x23 => vcE "punct" "punct" true (by rfl') fun x24 => vc (cInT 732 sg true) [] (n_inT w b 732 _ _ (sg732 hs)) rfl fun x25 => vcE "Update" "Name" false (by rfl') fun x26 => vc (cInT 512 (Z "Update") false) [] (n_inT w b 512 _ _ (by rfl')) rfl fun x27 => ve) 2180 (Kk [Kqi,Kqv,Kol,Kaf,Kol,Kgv,Kaw,Kgw,Kjj,Kak,Kif,Knx,Kjj,Knx,Kch,Knr,Knl,Kaf,Kow,Knc,Kmi,Kmi,Kpi,Kfl,Kpp,Kqr,Krn,Kdn,Kjy,Krn,Kdn,Kpr,140,Krn,Kdn,Kdg,Kom,140,Kch,Kjm,Kaf,Kfw,129,Kfw,Kac,Kfw,Kip,Kaf,Kpv,Kms,Kag,Kcj,Kch,Kak,Kch,Kch,Kod,135,Klv,145,Khr,Kqz,Kjy,Kkz,Kff,Kbn,0x13000c18,Knd,152,Kaf,0x260098,Khp,153,Kqn,Kaf,Kin,0x270d1a,Kah,Kgi,156,Kqa,Kfn,19994,Kah,Kgi,156,Kqa,Knb,154,Knd,154,Kch,Kpc,Kaf,Kqo,157,Kah,Khy,0x27801d,Kms,Kkb,Ken,Kpa,Kao,Kgx,160,Kah,Kgp,0x284020,Kex,Kpl,Kby,Kpd]) 61 (Kk [Kad,129,Kbn,Kan,Kkj,129,Kah,Kjp,Kdb,Kai,Kft,Kft]) ⟨2, 0, 41, 4, [(0, 5), (0, 7), (0, 33), (0, 34), (3, 41)]⟩ fun f B T x1 x2 x3 x4 x5 x6 x7 x8 x9 x10 x11 x12 x13 x14 x15 x16 x17 x18 x19 x20 x21 x22 x23 x24 x25 x26 x27 ld => ⟨(x19.2.2 15), by cases b <;> rfl'⟩
theorem ln1 (w b) (tx : Str) (k0 k1 k2 k3 : Tk) (hx : First w b tx (tN k0 "a")) (h0 : NxtA w b tx (tN k0 "a") (tP k1 "?")) (h1 : NxtA w b tx (tP k1 "?") (tN k2 "b")) (h2 : NxtA w b tx (tN k2 "b") (tE k3)) : LnN w b tx k3.ln :=
  nl (fun f B T => vJ (tN k0 "a") hx fun x1 => let R := rdOf w.params tx x1.2.2; vc (cGoIn R (cuA 0 (tN k0 "a") (aY x1.2.2))) [2, 3] (n_goIn w b _ _ (dn (n := 0) (by omega))) rfl fun x2 => vc (cUnN R ((cuA (0 + 1) k0 ((aY x1.2.2).pY x2.2.2)).as sN (Z "a")) (tP k1 "?")) [4, 5, 6, 7, 8, 9] (n_un1 w b _ _ _ _ rfl (h0 R rfl rfl _ rfl rfl rfl) (by rfl') (by rfl') (by rfl') (by rfl') (by rfl')) rfl fun x3 => vc (cPrio R (cuA (0 + 1) (tP k1 "?") (aY x3.2.2)) true 0) [9, 10, 0, 1] (n_prioP w b _ _ _ 0 (by rfl') (by rfl')) rfl fun x4 => vcG 0 1 false rfl fun x5 => vc (cEatY R (cuA (0 + 1) (tP k1 "?") (aY x3.2.2)) (Z "?") (tN k2 "b")) [9, 10, 11, 12, 0, 1] (n_eatY w b _ _ _ _ (n_sign1 w b _ _ _ true (by rfl') (by rfl')) (h1 R rfl rfl _ rfl rfl rfl)) rfl fun x6 => vc (cGoIn R (cuA (0 + 1) (tN k2 "b") (aY x6.2.2))) [12, 13] (n_goIn w b _ _ (dn (n := (0 + 1)) (by omega))) rfl fun x7 => vc (cUnN R ((cuA (0 + 1 + 1) k2 ((aY x6.2.2).pY x7.2.2)).as sN (Z "b")) (tE k3)) [14, 15, 16, 17, 3, 4] (n_un0 w b _ _ _ _ rfl (h2 R rfl rfl _ rfl rfl rfl) (by rfl')) rfl fun x8 => vc (cPrio R (cuA (0 + 1 + 1) (tE k3) (aY x8.2.2)) true 0) [19, 20, 0, 1] (n_prioO_false w b _ _ _ (by rfl') (n_word0 w b _ _ _ (by rfl')) (n_word0 w b _ _ _ (by rfl'))) rfl fun x9 => vcG 0 1 false rfl fun x10 => vc (cEatN R (cuA (0 + 1 + 1) (tE k3) (aY x8.2.2)) (Z "?")) [19, 20, 0, 1] (n_eatN w b _ _ _ (n_sign0 w b _ _ _ (by rfl'))) rfl fun x11 => vcE "end" "punct" false (by rfl') fun x12 => vc (cGoOut' R (cuA (0 + 1 + 1) (tE k3) (aY x8.2.2)) (0 + 1)) [19, 20] (n_goOut' w b _ _ _ (dm (0 + 1))) rfl fun x13 => vc (cEatN R (cuA (0 + 1) (tE k3) ((aY x8.2.2).pY x13.2.2)) (Z ":")) [20, 21, 1, 2] (n_eatN w b _ _ _ (n_sign0 w b _ _ _ (by rfl'))) rfl fun x14 => vcE "end" "end" true (by rfl') fun x15 => ve) 1106 (Kk [Kji,Kga,Kci,Kdj,Knn,Kgm,Kif,Kjz,Kki,Kch,Knh,Kak,Kmd,Kbu,Kml,Kcp,Kqe,Kdy,Kme,Kgm,Kni,Kje,148,Kah,Kez,148,Kqc,Kiz,Kni,Kda,Kpg,Kni,Kch,Kjd,129,Kak,Kjd,Kaw,Kkk,19201,Kah,Keo,0x25c016,Kfw,Kmm,151,Kah,Kgj,0x260017,Klb,Kpd]) 61 (Kk [Kad,129,Kbn,Kan,Kkj,129,Kah,Kjp,Kdb,Kai,Kft,Kft]) ⟨2, 0, 32, 4, [(0, 5), (0, 6), (0, 23), (0, 24), (0, 25), (3, 32)]⟩ fun f B T x1 x2 x3 x4 x5 x6 x7 x8 x9 x10 x11 x12 x13 x14 x15 ld => ⟨(x8.2.2 15), by cases b <;> rfl'⟩
theorem ln3 (w b) (tx : Str) (k0 k1 k2 : Tk) (hx : First w b tx (tP k0 "(")) (h0 : NxtA w b tx (tP k0 "(") (tN k1 "a")) (h1 : NxtA w b tx (tN k1 "a") (tE k2)) : LnN w b tx k2.ln :=
  nl (fun f B T => vJ (tP k0 "(") hx fun x1 => let R := rdOf w.params tx x1.2.2; vc (cGoIn R (cuA 0 (tP k0 "(") (aY x1.2.2))) [2, 3] (n_goIn w b _ _ (dn (n := 0) (by omega))) rfl fun x2 => vcE "punct" "punct" true (by rfl') fun x3 => vc (cInT 735 (Z "(") false) [] (n_inT w b 735 _ _ (by rfl')) rfl fun x4 => vcE "punct" "punct" true (by rfl') fun x5 => vc (cInT 733 (Z "(") false) [] (n_inT w b 733 _ _ (by rfl')) rfl fun x6 => vcE "punct" "keyword" false (by rfl') fun x7 => vc (cWord R (cuA (0 + 1) (tP k0 "(") ((aY x1.2.2).pY x2.2.2)) (Z "new") false) [7, 8, 11, 12] (n_word0 w b _ _ _ (by rfl')) rfl fun x8 => vcE "punct" "name" false (by rfl') fun x9 => vc (cInTs (x8.1 + 1) [.str (Z "number") (x9.2.1 + 1), .str (Z "text") (x9.2.1 + 2)] (Z "punct") false) [0] (n_inTs w b _ _ _ _ (by rfl') (by rfl')) rfl fun x10 => vcE "punct" "keyword" false (by rfl') fun x11 => vc (cEatY R (cuA (0 + 1) (tP k0 "(") ((aY x1.2.2).pY x2.2.2)) (Z "(") (tN k1 "a")) [9, 10, 11, 12, 13, 14] (n_eatY w b _ _ _ _ (n_sign1 w b _ _ _ true (by rfl') (by rfl')) (h0 R rfl rfl _ rfl rfl rfl)) rfl fun x12 => vc (cGoIn R (cuA (0 + 1) (tN k1 "a") (aY x12.2.2))) [13, 14] (n_goIn w b _ _ (dn (n := (0 + 1)) (by omega))) rfl fun x13 => vc (cUnN R ((cuA (0 + 1 + 1) k1 ((aY x12.2.2).pY x13.2.2)).as sN (Z "a")) (tE k2)) [15, 16, 17, 18, 4, 5] (n_un0 w b _ _ _ _ rfl (h1 R rfl rfl _ rfl rfl rfl) (by rfl')) rfl fun x14 => vc (cPrio R (cuA (0 + 1 + 1) (tE k2) (aY x14.2.2)) true 0) [20, 21, 0, 1] (n_prioO_false w b _ _ _ (by rfl') (n_word0 w b _ _ _ (by rfl')) (n_word0 w b _ _ _ (by rfl'))) rfl fun x15 => vcG 0 1 false rfl fun x16 => vc (cEatN R (cuA (0 + 1 + 1) (tE k2) (aY x14.2.2)) (Z "?")) [20, 21, 0, 1] (n_eatN w b _ _ _ (n_sign0 w b _ _ _ (by rfl'))) rfl fun x17 => vcE "end" "punct" false (by rfl') fun x18 => vc (cGoOut' R (cuA (0 + 1 + 1) (tE k2) (aY x14.2.2)) (0 + 1)) [20, 21] (n_goOut' w b _ _ _ (dm (0 + 1))) rfl fun x19 => vc (cSign R (cuA (0 + 1) (tE k2) ((aY x14.2.2).pY x19.2.2)) (Z ",") false) [20, 21, 0, 1] (n_sign0 w b _ _ _ (by rfl')) rfl fun x20 => vc (cEatN R (cuA (0 + 1) (tE k2) ((aY x14.2.2).pY x19.2.2)) (Z ")")) [21, 22, 1, 2] (n_eatN w b _ _ _ (n_sign0 w b _ _ _ (by rfl'))) rfl fun x21 => vcE "end" "end" true (by rfl') fun x22 => ve) 1594 (Kk [Klz,Kdb,Kiu,Kfb,Kqv,Kew,Kac,Kew,Kle,Kjj,Kks,Kif,Kny,Kki,Kch,Kmd,Kbu,Kig,Kak,Kml,Kbu,Kqe,Kcp,Kog,Kdy,Kmk,Kgm,Kjd,Kje,149,Kah,Kep,149,Koz,Kiz,Kjd,Kqs,Kjd,Kjz,Kjv,Kjd,Kch,Kkk,129,Kak,Kkk,Kaw,Khr,Kqz,19329,Kah,Kgj,0x260017,Kfw,Kmm,152,Kah,Kkq,0x264018,Klb,Kpd]) 61 (Kk [Kad,129,Kbn,Kan,Kkj,129,Kah,Kjp,Kdb,Kai,Kft,Kft]) ⟨2, 0, 33, 4, [(0, 5), (0, 6), (0, 19), (0, 20), (0, 21), (0, 22), (0, 23), (0, 24), (0, 25), (0, 26), (3, 33)]⟩ fun f B T x1 x2 x3 x4 x5 x6 x7 x8 x9 x10 x11 x12 x13 x14 x15 x16 x17 x18 x19 x20 x21 x22 ld => ⟨(x14.2.2 15), by cases b <;> rfl'⟩
theorem ln4 (w b) (tx : Str) (k0 k1 k2 k3 : Tk) (hx : First w b tx (tN k0 "a")) (h0 : NxtA w b tx (tN k0 "a") (tP k1 "[")) (h1 : NxtA w b tx (tP k1 "[") (tN k2 "b")) (h2 : NxtA w b tx (tN k2 "b") (tE k3)) : LnN w b tx k3.ln :=
  nl (fun f B T => vJ (tN k0 "a") hx fun x1 => let R := rdOf w.params tx x1.2.2; vc (cGoIn R (cuA 0 (tN k0 "a") (aY x1.2.2))) [2, 3] (n_goIn w b _ _ (dn (n := 0) (by omega))) rfl fun x2 => vcE "name" "punct" false (by rfl') fun x3 => vcE "name" "punct" false (by rfl') fun x4 => vcE "name" "keyword" false (by rfl') fun x5 => vc (cWord R (cuA (0 + 1) (tN k0 "a") ((aY x1.2.2).pY x2.2.2)) (Z "new") false) [7, 8, 11, 12] (n_word0 w b _ _ _ (by rfl')) rfl fun x6 => vcE "name" "name" true (by rfl') fun x7 => vc (cStrNe (Z "name") (Z "name") false) [] (n_str_ne w b _ _ _ (by rfl')) rfl fun x8 => vc (cTake R (cuA (0 + 1) (tN k0 "a") ((aY x1.2.2).pY x2.2.2)) (tP k1 "[")) [11, 12, 13, 14] (h0 R rfl rfl _ rfl rfl rfl) rfl fun x9 => vc (cNode R.P (Z "Name") k0.ln x9.1) [] (n_nodeP w b rfl _ _ _) rfl fun x10 => vc (cSign R (cuA (0 + 1) (tP k1 "[") (aY x9.2.2)) (Z ".") false) [17, 18, 4, 5] (n_sign1 w b _ _ _ false (by rfl') (by rfl')) rfl fun x11 => vc (cSign R (cuA (0 + 1) (tP k1 "[") (aY x9.2.2)) (Z "[") true) [17, 18, 4, 5] (n_sign1 w b _ _ _ true (by rfl') (by rfl')) rfl fun x12 => vc (cTake R (cuA (0 + 1) (tP k1 "[") (aY x9.2.2)) (tN k2 "b")) [17, 18, 19, 20] (h1 R rfl rfl _ rfl rfl rfl) rfl fun x13 => vcE "[" "." false (by rfl') fun x14 => vc (cGoIn R (cuA (0 + 1) (tN k2 "b") (aY x13.2.2))) [21, 22] (n_goIn w b _ _ (dn (n := (0 + 1)) (by omega))) rfl fun x15 => vc (cUnN R ((cuA (0 + 1 + 1) k2 ((aY x13.2.2).pY x15.2.2)).as sN (Z "b")) (tE k3)) [23, 24, 25, 26, 4, 5] (n_un0 w b _ _ _ _ rfl (h2 R rfl rfl _ rfl rfl rfl) (by rfl')) rfl fun x16 => vc (cPrio R (cuA (0 + 1 + 1) (tE k3) (aY x16.2.2)) true 0) [28, 29, 0, 1] (n_prioO_false w b _ _ _ (by rfl') (n_word0 w b _ _ _ (by rfl')) (n_word0 w b _ _ _ (by rfl'))) rfl fun x17 => vcG 0 1 false rfl fun x18 => vc (cEatN R (cuA (0 + 1 + 1) (tE k3) (aY x16.2.2)) (Z "?")) [28, 29, 0, 1] (n_eatN w b _ _ _ (n_sign0 w b _ _ _ (by rfl'))) rfl fun x19 => vcE "end" "punct" false (by rfl') fun x20 => vc (cGoOut' R (cuA (0 + 1 + 1) (tE k3) (aY x16.2.2)) (0 + 1)) [28, 29] (n_goOut' w b _ _ _ (dm (0 + 1))) rfl fun x21 => vc (cSign R (cuA (0 + 1) (tE k3) ((aY x16.2.2).pY x21.2.2)) (Z ",") false) [28, 29, 0, 1] (n_sign0 w b _ _ _ (by rfl')) rfl fun x22 => vc (cEatN R (cuA (0 + 1) (tE k3) ((aY x16.2.2).pY x21.2.2)) (Z "]")) [29, 30, 1, 2] (n_eatN w b _ _ _ (n_sign0 w b _ _ _ (by rfl'))) rfl fun x23 => vcE "end" "end" true (by rfl') fun x24 => ve) 1902 (Kk [Kqi,Kqv,Kol,Kaf,Kol,Kgv,Kaw,Kgw,Kjj,Kak,Kif,Knx,Kjj,Knx,Kch,Knr,Knl,Kaf,Kow,Knc,Kmi,Kmi,Kfl,Keh,Klv,Klp,Kme,Kch,Kmk,Kbu,Kkk,Kak,Kky,Kbu,Kkw,Kcp,Koe,Kdy,Kqk,Kgm,Kpc,Kje,157,Kah,Khy,0x27801d,Kiz,Kpc,Kqs,Kpc,Kjz,Kqr,Kpc,Kch,Kir,129,Kak,Kir,Kaw,Kpa,20353,Kah,Khn,159,Koy,Kfw,Kmm,160,Kah,Kgp,0x284020,Klb,Kpd]) 61 (Kk [Kad,129,Kbn,Kan,Kkj,129,Kah,Kjp,Kdb,Kai,Kft,Kft]) ⟨2, 0, 41, 4, [(0, 5), (0, 6), (1, 18), (0, 28), (0, 29), (0, 30), (0, 31), (0, 32), (0, 33), (0, 34), (3, 41)]⟩ fun f B T x1 x2 x3 x4 x5 x6 x7 x8 x9 x10 x11 x12 x13 x14 x15 x16 x17 x18 x19 x20 x21 x22 x23 x24 ld => ⟨(x16.2.2 15), by cases b <;> rfl'⟩
theorem ln7 (w b) (tx : Str) (k0 k1 : Tk) (hx : First w b tx (tK k0 "new")) (h0 : NxtA w b tx (tK k0 "new") (tE k1)) : LnN w b tx k1.ln :=
  nl (fun f B T => vJ (tK k0 "new") hx fun x1 => let R := rdOf w.params tx x1.2.2; vc (cGoIn R (cuA 0 (tK k0 "new") (aY x1.2.2))) [2, 3] (n_goIn w b _ _ (dn (n := 0) (by omega))) rfl fun x2 => vcE "keyword" "punct" false (by rfl') fun x3 => vcE "keyword" "punct" false (by rfl') fun x4 => vcE "keyword" "keyword" true (by rfl') fun x5 => vc (cInT 734 (Z "new") false) [] (n_inT w b 734 _ _ (by rfl')) rfl fun x6 => vc (cWord R (cuA (0 + 1) (tK k0 "new") ((aY x1.2.2).pY x2.2.2)) (Z "new") true) [7, 8, 11, 12] (n_word_true w b _ _ _ (by rfl') (by rfl')) rfl fun x7 => vc (cTake R (cuA (0 + 1) (tK k0 "new") ((aY x1.2.2).pY x2.2.2)) (tE k1)) [8, 9, 10, 11] (h0 R rfl rfl _ rfl rfl rfl) rfl fun x8 => vc (cGoIn R (cuA (0 + 1) (tE k1) (aY x8.2.2))) [10, 11] (n_goIn w b _ _ (dn (n := (0 + 1)) (by omega))) rfl fun x9 => vc (cWord R (cuA (0 + 1 + 1) (tE k1) ((aY x8.2.2).pY x9.2.2)) (Z "new") false) [10, 11, 0, 1] (n_word0 w b _ _ _ (by rfl')) rfl fun x10 => vcE "end" "name" false (by rfl') fun x11 => vc (cInTs (x10.1 + 1) [.str (Z "number") (x11.2.1 + 1), .str (Z "text") (x11.2.1 + 2)] (Z "end") false) [0] (n_inTs w b _ _ _ _ (by rfl') (by rfl')) rfl fun x12 => vcE "end" "keyword" false (by rfl') fun x13 => vc (cEatN R (cuA (0 + 1 + 1) (tE k1) ((aY x8.2.2).pY x9.2.2)) (Z "(")) [12, 13, 2, 3] (n_eatN w b _ _ _ (n_sign0 w b _ _ _ (by rfl'))) rfl fun x14 => vc (cSign R (cuA (0 + 1 + 1) (tE k1) ((aY x8.2.2).pY x9.2.2)) (Z "[") false) [12, 13, 2, 3] (n_sign0 w b _ _ _ (by rfl')) rfl fun x15 => vc (cSign R (cuA (0 + 1 + 1) (tE k1) ((aY x8.2.2).pY x9.2.2)) (Z "{") false) [12, 13, 2, 3] (n_sign0 w b _ _ _ (by rfl')) rfl fun x16 => vc (cSign R (cuA (0 + 1 + 1) (tE k1) ((aY x8.2.2).pY x9.2.2)) (Z "/") false) [12, 13, 2, 3] (n_sign0 w b _ _ _ (by rfl')) rfl fun x17 => vc (cSign R (cuA (0 + 1 + 1) (tE k1) ((aY x8.2.2).pY x9.2.2)) (Z "/=") false) [12, 13, 2, 3] (n_sign0 w b _ _ _ (by rfl')) rfl fun x18 => vcE "end" "end" true (by rfl') fun x19 => ve) 1331 (Kk [Kqi,Kiu,Kag,Ken,Kkg,Kaw,Khe,Klk,Kak,Khe,Kaw,Kgv,Kaf,Kql,Kbi,Knf,Klp,Kng,131,Knf,Klp,Kng,Kaw,140,Kah,140,Kct,140,Kfz,Kae,Kpj,Kbr,Kle,Kfw,Kks,Knh,Kdu,Knh,Kdu,Knh,Kdu,Knh,Kdu,Knh,Kdu,Knh,Kaw,Kig,18177,Kah,Kej,142,Kdp,Kcq,Kmm,143,Kah,Kgs,Knm,Kdn,Kqm]) 61 (Kk [Kad,129,Kbn,Kan,Kkj,129,Kah,Kjp,Kdb,Kai,Kft,Kft]) ⟨2, 0, 24, 4, [(0, 5), (0, 7), (0, 10), (0, 11), (0, 12), (0, 13), (0, 14), (0, 15), (0, 16), (0, 17), (3, 24)]⟩ fun f B T x1 x2 x3 x4 x5 x6 x7 x8 x9 x10 x11 x12 x13 x14 x15 x16 x17 x18 x19 ld => ⟨(x8.2.2 15), by cases b <;> rfl'⟩
theorem ln8 (w b) (tx : Str) (k0 k1 : Tk) (hx : First w b tx (tK k0 "typeof")) (h0 : NxtA w b tx (tK k0 "typeof") (tE k1)) : LnN w b tx k1.ln :=
  nl (fun f B T => vJ (tK k0 "typeof") hx fun x1 => let R := rdOf w.params tx x1.2.2; vc (cGoIn R (cuA 0 (tK k0 "typeof") (aY x1.2.2))) [2, 3] (n_goIn w b _ _ (dn (n := 0) (by omega))) rfl fun x2 => vcE "keyword" "punct" false (by rfl') fun x3 => vcE "keyword" "punct" false (by rfl') fun x4 => vcE "keyword" "keyword" true (by rfl') fun x5 => vc (cInT 734 (Z "typeof") true) [] (n_inT w b 734 _ _ (by rfl')) rfl fun x6 => vc (cTake R (cuA (0 + 1) (tK k0 "typeof") ((aY x1.2.2).pY x2.2.2)) (tE k1)) [6, 7, 8, 9] (h0 R rfl rfl _ rfl rfl rfl) rfl fun x7 => vc (cGoIn R (cuA (0 + 1) (tE k1) (aY x7.2.2))) [8, 9] (n_goIn w b _ _ (dn (n := (0 + 1)) (by omega))) rfl fun x8 => vcE "end" "punct" false (by rfl') fun x9 => vcE "end" "punct" false (by rfl') fun x10 => vcE "end" "keyword" false (by rfl') fun x11 => vc (cWord R (cuA (0 + 1 + 1) (tE k1) ((aY x7.2.2).pY x8.2.2)) (Z "new") false) [11, 12, 3, 4] (n_word0 w b _ _ _ (by rfl')) rfl fun x12 => vcE "end" "name" false (by rfl') fun x13 => vc (cInTs (x12.1 + 1) [.str (Z "number") (x13.2.1 + 1), .str (Z "text") (x13.2.1 + 2)] (Z "end") false) [0] (n_inTs w b _ _ _ _ (by rfl') (by rfl')) rfl fun x14 => vcE "end" "keyword" false (by rfl') fun x15 => vc (cEatN R (cuA (0 + 1 + 1) (tE k1) ((aY x7.2.2).pY x8.2.2)) (Z "(")) [13, 14, 5, 6] (n_eatN w b _ _ _ (n_sign0 w b _ _ _ (by rfl'))) rfl fun x16 => vc (cSign R (cuA (0 + 1 + 1) (tE k1) ((aY x7.2.2).pY x8.2.2)) (Z "[") false) [13, 14, 5, 6] (n_sign0 w b _ _ _ (by rfl')) rfl fun x17 => vc (cSign R (cuA (0 + 1 + 1) (tE k1) ((aY x7.2.2).pY x8.2.2)) (Z "{") false) [13, 14, 5, 6] (n_sign0 w b _ _ _ (by rfl')) rfl fun x18 => vc (cSign R (cuA (0 + 1 + 1) (tE k1) ((aY x7.2.2).pY x8.2.2)) (Z "/") false) [13, 14, 5, 6] (n_sign0 w b _ _ _ (by rfl')) rfl fun x19 => vc (cSign R (cuA (0 + 1 + 1) (tE k1) ((aY x7.2.2).pY x8.2.2)) (Z "/=") false) [13, 14, 5, 6] (n_sign0 w b _ _ _ (by rfl')) rfl fun x20 => vcE "end" "end" true (by rfl') fun x21 => ve) 1436 (Kk [Kqi,Kiu,Kdb,Kcf,Kaj,Kjl,Kfj,Kah,Kls,Kaf,Kai,Kgv,Klp,Kkl,Kaw,Kgw,Kae,Kpj,Kbr,Kaq,Kbr,Ken,Knn,Kaw,Kng,Kaw,Kki,129,Knl,Kak,Kki,Kaw,141,Kah,Kdl,Kcn,Kcc,Kae,Kdn,Kac,Kdn,Kle,Kfa,Kks,Kig,Kdu,Kig,Kdu,Kig,Kdu,Kig,Kdu,Kig,Kdu,Kig,Kaw,Knj,143,Kah,Kpx,18305,Kah,Kgs,Knm,135,Klv,Kmm,144,Kah,Kke,144,Kod,Kex,Kpl,Kby,Kpd]) 61 (Kk [Kad,129,Kbn,Kan,Kkj,129,Kah,Kjp,Kdb,Kai,Kft,Kft]) ⟨2, 0, 25, 4, [(0, 5), (0, 7), (0, 8), (0, 9), (0, 10), (0, 13), (0, 14), (0, 15), (0, 16), (0, 17), (0, 18), (3, 25)]⟩ fun f B T x1 x2 x3 x4 x5 x6 x7 x8 x9 x10 x11 x12 x13 x14 x15 x16 x17 x18 x19 x20 x21 ld => ⟨(x7.2.2 15), by cases b <;> rfl'⟩
theorem lt3 (w b) (tx : Str) (k0 k1 : Tk) (sg : Str) (hx : First w b tx (tK k0 "this")) (hs : sg ∈ signsL) (h0 : NxtA w b tx (tK k0 "this") (k1.as sP sg)) : LnN w b tx k1.ln :=
  nl (fun f B T => vJ (tK k0 "this") hx fun x1 => let R := rdOf w.params tx x1.2.2; vc (cGoIn R (cuA 0 (tK k0 "this") (aY x1.2.2))) [2, 3] (n_goIn w b _ _ (dn (n := 0) (by omega))) rfl fun x2 => vcE "keyword" "punct" false (by rfl') fun x3 => vcE "keyword" "punct" false (by rfl') fun x4 => vcE "keyword" "keyword" true (by rfl') fun x5 => vc (cInT 734 (Z "this") false) [] (n_inT w b 734 _ _ (by rfl')) rfl fun x6 => vc (cWord R (cuA (0 + 1) (tK k0 "this") ((aY x1.2.2).pY x2.2.2)) (Z "new") false) [7, 8, 11, 12] (n_word_false w b _ _ _ (by rfl') (by rfl')) rfl fun x7 => vcE "keyword" "name" false (by rfl') fun x8 => vc (cInTs (x7.1 + 1) [.str (Z "number") (x8.2.1 + 1), .str (Z "text") (x8.2.1 + 2)] (Z "keyword") false) [0] (n_inTs w b _ _ _ _ (by rfl') (by rfl')) rfl fun x9 => vcE "keyword" "keyword" true (by rfl') fun x10 => vc (cWord R (cuA (0 + 1) (tK k0 "this") ((aY x1.2.2).pY x2.2.2)) (Z "function") false) [10, 11, 14, 15] (n_word_false w b _ _ _ (by rfl') (by rfl')) rfl fun x11 => vc (cInTs x11.1 [.str (Z "this") (x11.2.1 + 1), .str (Z "null") (x11.2.1 + 2), .str (Z "true") (x11.2.1 + 3), .str (Z "false") (x11.2.1 + 4)] (Z "this") true) [0] (n_inTs w b _ _ _ _ (by rfl') (by rfl')) rfl fun x12 => vc (cTake R (cuA (0 + 1) (tK k0 "this") ((aY x1.2.2).pY x2.2.2)) (k1.as sP sg)) [11, 12, 13, 14] (h0 R rfl rfl _ rfl rfl rfl) rfl fun x13 => vcE "this" "this" true (by rfl') fun x14 => vc (cNode R.P (Z "This") k0.ln x13.1) [] (n_nodeP w b rfl _ _ _) rfl fun x15 => vc (cSign R (cuA (0 + 1) (k1.as sP sg) (aY x13.2.2)) (Z ".") false) [17, 18, 4, 5] (n_sign1 w b _ _ _ false (by rfl') (sg_ne hs _ (by rfl'))) rfl fun x16 => vc (cSign R (cuA (0 + 1) (k1.as sP sg) (aY x13.2.2)) (Z "[") false) [17, 18, 4, 5] (n_sign1 w b _ _ _ false (by rfl') (sg_ne hs _ (by rfl'))) rfl fun x17 => vc (cSign R (cuA (0 + 1) (k1.as sP sg) (aY x13.2.2)) (Z "(") false) [17, 18, 4, 5] (n_sign1 w b _ _ _ false (by rfl') (sg_ne hs _ (by rfl'))) rfl fun x18 => vc (cStrNe (Z "punct") (Z "punct") false) [] (n_str_ne w b _ _ _ (by rfl')) rfl fun x19 => vc (cInT 735 sg false) [] (n_inT w b 735 _ _ (sg735 hs)) rfl fun x20 => vc (cPrio R (cuA (0 + 1) (k1.as sP sg) (aY x13.2.2)) true 0) [17, 18, 4, 5] (n_prioSg w b _ _ _ (by rfl') hs) rfl fun x21 => vcG 0 1 false rfl fun x22 => vc (cEatN R (cuA (0 + 1) (k1.as sP sg) (aY x13.2.2)) (Z "?")) [17, 18, 4, 5] (n_eatN w b _ _ _ (n_sign1 w b _ _ _ false (by rfl') (sg_ne hs _ (by rfl')))) rfl fun x23 => vcE "punct" "punct" true (by rfl') fun x24 => vc (cInT 732 sg true) [] (n_inT w b 732 _ _ (sg732 hs)) rfl fun x25 => vcE "This" "Name" false (by rfl') fun x26 => vc (cInT 512 (Z "This") false) [] (n_inT w b 512 _ _ (by rfl')) rfl fun x27 => ve) 1780 (Kk [Kqi,Kiu,Kag,Ken,Kkg,Kaw,Khe,Klk,Kak,Khe,Klo,Kae,Kew,Kac,Kew,Kle,Kjj,Kks,Knn,Kaw,Klq,Kdm,Khf,Kae,Knf,Kak,Kql,Kle,144,Kab,144,Kag,Krp,Kod,130,Knl,Kaf,16896,Kow,0x210001,Kow,Kaa,Kao,Kfp,Kmi,Kmi,Kpi,Kfl,Kpp,Kqr,Krn,Kdn,Kjy,Krn,Kdn,Kpr,140,Kln,Kom,142,Kaf,16526,Keb,Kfd,Kfl,Kaf,Kpx,Krp,Krn,Kdn,Kaf,144,Krn,Kdn,Kpr,144,Kom,144,Kch,Kjm,Kaf,Kfw,129,Kfw,Kac,Kpv,Kms,Kkb,Ken,Kjd,Kao,Kgx,150,Kah,Keo,0x25c016,Kcz,Kax,128,Kbk,Kpd]) 61 (Kk [Kad,129,Kbn,Kan,Kkj,129,Kah,Kjp,Kdb,Kai,Kft,Kft]) ⟨2, 0, 31, 4, [(0, 5), (0, 7), (0, 23), (0, 24), (3, 31)]⟩ fun f B T x1 x2 x3 x4 x5 x6 x7 x8 x9 x10 x11 x12 x13 x14 x15 x16 x17 x18 x19 x20 x21 x22 x23 x24 x25 x26 x27 ld => ⟨(x13.2.2 15), by cases b <;> rfl'⟩
noncomputable def cExN (R : Rd) (c : Cu) (k : Tk) (can : Bool) (D U : Nat) : Cn := { cEx R c k can (.str s0) D U with fs := fun _ _ => [] }
theorem n_exN {w : World} {b : Bool} {R : Rd} {c : Cu} {k : Tk} {can : Bool} {T : Tr} {D U : Nat} (h : Nd w b (cEx R c k can T D U)) : Nd w b (cExN R c k can D U) := fun {ix} I =>
  Node.weak (h (ix := ix) ⟨I.1, I.2⟩) ⟨rfl, rfl, rfl, rfl, rfl, rfl, rfl, rfl⟩ fun x h h' q => ⟨x, rfl, rfl, q.keep, q.size, q.grow, q.upd, q.add, q.nd, fun F hF => nomatch hF⟩
noncomputable def cLine0 (tx : Str) : Cn := { co := fun f => fcall 918 [.str tx (f 0)], sl := [], res := fun y => okV (.int 0 (y 0)), D := 300, U := 2400 }
theorem n_line0 (w b) (tx : Str) (kf k1 : Tk) (hI : Nd w b (cInit w.params tx kf)) (hE : ∀ (R : Rd) (a : Ca), R.P = w.params → R.tx = tx → Nd w b (cExN R (cuA 0 kf a) (tE k1) true 260 2000)) : Nd w b (cLine0 tx) :=
  nr [] [] 53 (Kk [Kgh,Key,Kad,Khb,130,Kaf]) (fun f B T => vc (cInit w.params tx kf) [] hI rfl fun x1 => vc (cExN (rdOf w.params tx x1.2.2) (cuA 0 kf (aY x1.2.2)) (tE k1) true 260 2000) [0, 1, 2, 3, 4, 5] (hE _ _ rfl rfl) rfl fun x2 => ve) fun f B T x1 x2 => ⟨natAt [x2.2.1], by cases b <;> rfl'⟩
mutual
noncomputable def rowsOf : Tr → Tr
  | .str s => .str s
  | .lst l => .lst (rowsL l)
  | .node kd l => .lst (.str kd :: rowsL l)
noncomputable def rowsL : List Tr → List Tr
  | [] => []
  | t :: l => rowsOf t :: rowsL l
end
abbrev wI (w : World) (bi : Bool) : World := w.withFollow rowI bi
abbrev wP (w : World) (bi : Bool) : Params := (wI w bi).params
noncomputable def cRows (P : Params) (lo hi fx : Nat) (a : Addr) (T : Tr) : Cn := { co := fun _ => fcall 911 [.ref a], sl := [], res := fun y => okV (.ref (y 0)), fs := fun y z => [treeF P (y 1) z (.ref (y 0)) (rowsOf T)], pf := [(fx, treeF P lo hi (.ref a) T)], D := 40, U := 300 }
noncomputable def cRowS (s : Str) : Cn := { co := fun f => fcall 911 [.str s (f 0)], sl := [], res := fun y => okV (.str s (y 0)), D := 40, U := 300 }
noncomputable def IsRef : Tr → Prop
  | .str _ => False
  | _ => True
theorem isRef_at {P : Params} {lo hi : Nat} {h : Heap} {v : Value} {T : Tr} (r : IsRef T) (x : IsTree P lo hi h v T) : ∃ a, v = .ref a := by
  cases x with
  | str => exact r.elim
  | lst => exact ⟨_, rfl⟩
  | node => exact ⟨_, rfl⟩
theorem inst_node {P : Params} {C d : Addr} {kd ln p k v} : inst C d ≠ nodeO P kd ln p k v := fun e => nomatch congrArg Obj.data e
theorem inst_list {C d : Addr} {l n} : inst C d ≠ listN l n := fun e => nomatch congrArg Obj.data e
theorem node_list {P : Params} {kd ln p k v l n} : nodeO P kd ln p k v ≠ listN l n := fun e => nomatch congrArg Obj.data e
theorem get_ne {h : Heap} {a b : Addr} {o o' : Obj} (ha : h.get? a = some o) (hb : h.get? b = some o') (n : o ≠ o') : a ≠ b := fun e => by
  subst e
  rw [ha] at hb
  exact n (Option.some.inj hb)
theorem own3 {h : Heap} {a d p : Addr} {o1 o2 o3 : Obj} (oa : h.get? a = some o1) (od : h.get? d = some o2) (op : h.get? p = some o3) : ∀ s ∈ [(⟨a, o1, false⟩ : Slot), ⟨d, o2, false⟩, ⟨p, o3, false⟩], h.get? s.a = some s.o ∧ s.u = false := fun s hs => by
  rcases List.mem_cons.mp hs with rfl | hs
  · exact ⟨oa, rfl⟩
  rcases List.mem_cons.mp hs with rfl | hs
  · exact ⟨od, rfl⟩
  rcases List.mem_cons.mp hs with rfl | hs
  · exact ⟨op, rfl⟩
  cases hs
theorem own1 {h : Heap} {a : Addr} {o1 : Obj} (oa : h.get? a = some o1) : ∀ s ∈ [(⟨a, o1, false⟩ : Slot)], h.get? s.a = some s.o ∧ s.u = false := fun s hs => by
  rcases List.mem_cons.mp hs with rfl | hs
  · exact ⟨oa, rfl⟩
  cases hs
theorem nd1 (a : Addr) : [a].Nodup := by simp
theorem kid {P : Params} {B lo hi : Nat} {h : Heap} {v : Value} {T : Tr} (f : (treeF P lo hi v T).P h ∧ (treeF P lo hi v T).Stable ∧ B ≤ (treeF P lo hi v T).lo ∧ (treeF P lo hi v T).hi ≤ h.objs.size) : IsTree P B h.objs.size h v T :=
  IsTree.mono f.2.2.1 f.2.2.2 (fun _ _ _ _ e => e) f.1
theorem nd3 {a d p : Nat} (h1 : a ≠ d) (h2 : a ≠ p) (h3 : d ≠ p) : [a, d, p].Nodup := by simp [h1, h2, h3]
theorem n_rowS (w : World) (b bi : Bool) (s : Str) : Nd (wI w bi) b (cRowS s) := fun {ix} I =>
  node_run (by rfl') I [] [] 92 (Kk [Key,Kaa,Kao,Kab,Kfu,Kaq,Kah,130]) (by rfl') rfl (fun _ => rfl) (fun f B T => .nil) (fun f B T => trivial) fun f B T => ⟨fun _ => f 0, by cases b <;> cases bi <;> rfl'⟩
theorem rw_s (w : World) (b bi : Bool) {Dv Uv : Nat} (kd : Str) (s1 : Str)  (lo hi fx : Nat) (a : Addr) : NdV (wI w bi) b (Dv + 8) (Uv + 60) (cRows (wP w bi) lo hi fx a (.node kd [.str s1])) := fun {ix} I => by
  refine node_open (PD := 48) (PU := 360) I rfl rfl (Nat.le_refl _) (Nat.le_refl _) rfl rfl fun f h hpf => ?_
  obtain ⟨hP, hS, hhi⟩ := hpf _ (.head _)
  cases hP with | node a d p kd ln k v vs ts _ _ _ _ _ _ oa od op r =>
  cases r with | cons q1 r =>
  cases q1 with | str _ t1 =>
  cases r with | nil =>
  exact .mk ⟨[⟨a, inst 38 d, false⟩, ⟨d, nodeO (wP w bi) kd ln p k v, false⟩, ⟨p, listO [.str s1 t1], false⟩], [], [0], (cond bi 155 165), (cond bi (Kk [Kok,Kfe,130,Kfw,Kqy,129,Kns,136,Kma,Kof,Kmz,134,Kbc,132,Kmz]) (Kk [Kok,Kfe,130,Kfw,Kqy,129,Kpf,136,Kma,Kof,Kmz,134,Kbc,132,Kmz])), fun B t => .cons XT ((cRowS s1).spec []) fun x1 => .nil, (own3 oa od op), nd3 (get_ne oa od inst_node) (get_ne oa op inst_list) (get_ne od op node_list), (fun F hF => by

    cases hF), by rfl', fun B t => ⟨(n_rowS w b bi _ (ixOk (by rfl'))).dm, fun x1 => trivial⟩, fun B t => fun x1 => ⟨natAt [(x1.1 + 2), B], [((x1.1 + 2), listN [.str kd (v 0), .str s1 (x1.2.2 0)] 0)], [], by clear hS hhi I hpf oa od op; cases b <;> cases bi <;> rfl', fun h' hB hs hf F hF => by
    obtain rfl := List.mem_singleton.mp hF
    have m (i : Nat) {q} (e : _ = some q) := hs q (List.mem_of_getElem? (i := i) e)
    exact ⟨.lst _ _ _ _ (m 0 rfl).2.1 (m 0 rfl).2.2 (m 0 rfl).1 (.cons (.str _ _) (.cons (.str _ _) .nil)), treeF_stable _ _ _ _ _, Nat.le_refl _, Nat.le_refl _⟩⟩⟩
theorem rw_rs (w : World) (b bi : Bool) {Dv Uv : Nat} (kd : Str) (s2 : Str) (T1 : Tr) (hr1 : IsRef T1) (ih1 : ∀ lo hi fx a, NdV (wI w bi) b Dv Uv (cRows (wP w bi) lo hi fx a T1)) (lo hi fx : Nat) (a : Addr) : NdV (wI w bi) b (Dv + 8) (Uv + 60) (cRows (wP w bi) lo hi fx a (.node kd [T1, .str s2])) := fun {ix} I => by
  refine node_open (PD := 48) (PU := 360) I rfl rfl (Nat.le_refl _) (Nat.le_refl _) rfl rfl fun f h hpf => ?_
  obtain ⟨hP, hS, hhi⟩ := hpf _ (.head _)
  cases hP with | node a d p kd ln k v vs ts _ _ _ _ _ _ oa od op r =>
  cases r with | cons q1 r =>
  obtain ⟨a1, rfl⟩ := isRef_at hr1 q1
  cases r with | cons q2 r =>
  cases q2 with | str _ t2 =>
  cases r with | nil =>
  exact .mk ⟨[⟨a, inst 38 d, false⟩, ⟨d, nodeO (wP w bi) kd ln p k v, false⟩, ⟨p, listO [.ref a1, .str s2 t2], false⟩], [treeF (wP w bi) lo hi (.ref a1) T1], [0], (cond bi 189 199), (cond bi (Kk [Kok,Kfe,130,Kfw,Kqy,129,Kns,136,Kma,Kma,Kof,Kmz,134,Kbc,132,Kmz]) (Kk [Kok,Kfe,130,Kfw,Kqy,129,Kpf,136,Kma,Kma,Kof,Kmz,134,Kbc,132,Kmz])), fun B t => .cons XT ((cRows (wP w bi) lo hi 0 a1 T1).spec []) fun x1 => .cons XT ((cRowS s2).spec []) fun x2 => .nil, (own3 oa od op), nd3 (get_ne oa od inst_node) (get_ne oa op inst_list) (get_ne od op node_list), (fun F hF => by
    rcases List.mem_cons.mp hF with rfl | hF
    · exact ⟨q1, treeF_stable _ _ _ _ _, hhi⟩
    cases hF), by rfl', fun B t => ⟨(ih1 _ _ _ _ (ixOk (by rfl'))).du, fun x1 => ⟨(n_rowS w b bi _ (ixOk (by rfl'))).dm, fun x2 => trivial⟩⟩, fun B t => fun x1 x2 => ⟨natAt [(x2.1 + 2), B], [((x2.1 + 2), listN [.str kd (v 0), .ref (x1.2.2 0), .str s2 (x2.2.2 0)] 0)], [treeF (wP w bi) (x1.2.2 1) x1.1 (.ref (x1.2.2 0)) (rowsOf T1)], by clear hS hhi I hpf q1 oa od op ih1 hr1; cases b <;> cases bi <;> rfl', fun h' hB hs hf F hF => by
    obtain rfl := List.mem_singleton.mp hF
    have m (i : Nat) {q} (e : _ = some q) := hs q (List.mem_of_getElem? (i := i) e)
    exact ⟨.lst _ _ _ _ (m 0 rfl).2.1 (m 0 rfl).2.2 (m 0 rfl).1 (.cons (.str _ _) (.cons (kid (hf _ (List.mem_of_getElem? (i := 0) rfl))) (.cons (.str _ _) .nil))), treeF_stable _ _ _ _ _, Nat.le_refl _, Nat.le_refl _⟩⟩⟩
theorem rw_rr (w : World) (b bi : Bool) {Dv Uv : Nat} (kd : Str) (T1 T2 : Tr) (hr1 : IsRef T1) (ih1 : ∀ lo hi fx a, NdV (wI w bi) b Dv Uv (cRows (wP w bi) lo hi fx a T1)) (hr2 : IsRef T2) (ih2 : ∀ lo hi fx a, NdV (wI w bi) b Dv Uv (cRows (wP w bi) lo hi fx a T2)) (lo hi fx : Nat) (a : Addr) : NdV (wI w bi) b (Dv + 8) (Uv + 60) (cRows (wP w bi) lo hi fx a (.node kd [T1, T2])) := fun {ix} I => by
  refine node_open (PD := 48) (PU := 360) I rfl rfl (Nat.le_refl _) (Nat.le_refl _) rfl rfl fun f h hpf => ?_
  obtain ⟨hP, hS, hhi⟩ := hpf _ (.head _)
  cases hP with | node a d p kd ln k v vs ts _ _ _ _ _ _ oa od op r =>
  cases r with | cons q1 r =>
  obtain ⟨a1, rfl⟩ := isRef_at hr1 q1
  cases r with | cons q2 r =>
  obtain ⟨a2, rfl⟩ := isRef_at hr2 q2
  cases r with | nil =>
  exact .mk ⟨[⟨a, inst 38 d, false⟩, ⟨d, nodeO (wP w bi) kd ln p k v, false⟩, ⟨p, listO [.ref a1, .ref a2], false⟩], [treeF (wP w bi) lo hi (.ref a1) T1, treeF (wP w bi) lo hi (.ref a2) T2], [0], (cond bi 189 199), (cond bi (Kk [Kok,Kfe,130,Kfw,Kqy,129,Kns,136,Kma,Kma,Kof,Kmz,134,Kbc,132,Kmz]) (Kk [Kok,Kfe,130,Kfw,Kqy,129,Kpf,136,Kma,Kma,Kof,Kmz,134,Kbc,132,Kmz])), fun B t => .cons XT ((cRows (wP w bi) lo hi 0 a1 T1).spec []) fun x1 => .cons XT ((cRows (wP w bi) lo hi 2 a2 T2).spec []) fun x2 => .nil, (own3 oa od op), nd3 (get_ne oa od inst_node) (get_ne oa op inst_list) (get_ne od op node_list), (fun F hF => by
    rcases List.mem_cons.mp hF with rfl | hF
    · exact ⟨q1, treeF_stable _ _ _ _ _, hhi⟩
    rcases List.mem_cons.mp hF with rfl | hF
    · exact ⟨q2, treeF_stable _ _ _ _ _, hhi⟩
    cases hF), by rfl', fun B t => ⟨(ih1 _ _ _ _ (ixOk (by rfl'))).du, fun x1 => ⟨(ih2 _ _ _ _ (ixOk (by rfl'))).du, fun x2 => trivial⟩⟩, fun B t => fun x1 x2 => ⟨natAt [(x2.1 + 2), B], [((x2.1 + 2), listN [.str kd (v 0), .ref (x1.2.2 0), .ref (x2.2.2 0)] 0)], [treeF (wP w bi) (x2.2.2 1) x2.1 (.ref (x2.2.2 0)) (rowsOf T2), treeF (wP w bi) (x1.2.2 1) x1.1 (.ref (x1.2.2 0)) (rowsOf T1)], by clear hS hhi I hpf q1 q2 oa od op ih1 ih2 hr1 hr2; cases b <;> cases bi <;> rfl', fun h' hB hs hf F hF => by
    obtain rfl := List.mem_singleton.mp hF
    have m (i : Nat) {q} (e : _ = some q) := hs q (List.mem_of_getElem? (i := i) e)
    exact ⟨.lst _ _ _ _ (m 0 rfl).2.1 (m 0 rfl).2.2 (m 0 rfl).1 (.cons (.str _ _) (.cons (kid (hf _ (List.mem_of_getElem? (i := 1) rfl))) (.cons (kid (hf _ (List.mem_of_getElem? (i := 0) rfl))) .nil))), treeF_stable _ _ _ _ _, Nat.le_refl _, Nat.le_refl _⟩⟩⟩
theorem rw_srr (w : World) (b bi : Bool) {Dv Uv : Nat} (kd : Str) (s1 : Str) (T2 T3 : Tr) (hr2 : IsRef T2) (ih2 : ∀ lo hi fx a, NdV (wI w bi) b Dv Uv (cRows (wP w bi) lo hi fx a T2)) (hr3 : IsRef T3) (ih3 : ∀ lo hi fx a, NdV (wI w bi) b Dv Uv (cRows (wP w bi) lo hi fx a T3)) (lo hi fx : Nat) (a : Addr) : NdV (wI w bi) b (Dv + 8) (Uv + 60) (cRows (wP w bi) lo hi fx a (.node kd [.str s1, T2, T3])) := fun {ix} I => by
  refine node_open (PD := 48) (PU := 360) I rfl rfl (Nat.le_refl _) (Nat.le_refl _) rfl rfl fun f h hpf => ?_
  obtain ⟨hP, hS, hhi⟩ := hpf _ (.head _)
  cases hP with | node a d p kd ln k v vs ts _ _ _ _ _ _ oa od op r =>
  cases r with | cons q1 r =>
  cases q1 with | str _ t1 =>
  cases r with | cons q2 r =>
  obtain ⟨a2, rfl⟩ := isRef_at hr2 q2
  cases r with | cons q3 r =>
  obtain ⟨a3, rfl⟩ := isRef_at hr3 q3
  cases r with | nil =>
  exact .mk ⟨[⟨a, inst 38 d, false⟩, ⟨d, nodeO (wP w bi) kd ln p k v, false⟩, ⟨p, listO [.str s1 t1, .ref a2, .ref a3], false⟩], [treeF (wP w bi) lo hi (.ref a2) T2, treeF (wP w bi) lo hi (.ref a3) T3], [0], (cond bi 223 233), (cond bi (Kk [Kok,Kfe,130,Kfw,Kqy,129,Kns,136,Kma,Kma,Kma,Kof,Kmz,134,Kbc,132,Kmz]) (Kk [Kok,Kfe,130,Kfw,Kqy,129,Kpf,136,Kma,Kma,Kma,Kof,Kmz,134,Kbc,132,Kmz])), fun B t => .cons XT ((cRowS s1).spec []) fun x1 => .cons XT ((cRows (wP w bi) lo hi 0 a2 T2).spec []) fun x2 => .cons XT ((cRows (wP w bi) lo hi 2 a3 T3).spec []) fun x3 => .nil, (own3 oa od op), nd3 (get_ne oa od inst_node) (get_ne oa op inst_list) (get_ne od op node_list), (fun F hF => by
    rcases List.mem_cons.mp hF with rfl | hF
    · exact ⟨q2, treeF_stable _ _ _ _ _, hhi⟩
    rcases List.mem_cons.mp hF with rfl | hF
    · exact ⟨q3, treeF_stable _ _ _ _ _, hhi⟩
    cases hF), by rfl', fun B t => ⟨(n_rowS w b bi _ (ixOk (by rfl'))).dm, fun x1 => ⟨(ih2 _ _ _ _ (ixOk (by rfl'))).du, fun x2 => ⟨(ih3 _ _ _ _ (ixOk (by rfl'))).du, fun x3 => trivial⟩⟩⟩, fun B t => fun x1 x2 x3 => ⟨natAt [(x3.1 + 2), B], [((x3.1 + 2), listN [.str kd (v 0), .str s1 (x1.2.2 0), .ref (x2.2.2 0), .ref (x3.2.2 0)] 0)], [treeF (wP w bi) (x3.2.2 1) x3.1 (.ref (x3.2.2 0)) (rowsOf T3), treeF (wP w bi) (x2.2.2 1) x2.1 (.ref (x2.2.2 0)) (rowsOf T2)], by clear hS hhi I hpf q2 q3 oa od op ih2 ih3 hr2 hr3; cases b <;> cases bi <;> rfl', fun h' hB hs hf F hF => by
    obtain rfl := List.mem_singleton.mp hF
    have m (i : Nat) {q} (e : _ = some q) := hs q (List.mem_of_getElem? (i := i) e)
    exact ⟨.lst _ _ _ _ (m 0 rfl).2.1 (m 0 rfl).2.2 (m 0 rfl).1 (.cons (.str _ _) (.cons (.str _ _) (.cons (kid (hf _ (List.mem_of_getElem? (i := 1) rfl))) (.cons (kid (hf _ (List.mem_of_getElem? (i := 0) rfl))) .nil)))), treeF_stable _ _ _ _ _, Nat.le_refl _, Nat.le_refl _⟩⟩⟩
theorem rw_rrr (w : World) (b bi : Bool) {Dv Uv : Nat} (kd : Str) (T1 T2 T3 : Tr) (hr1 : IsRef T1) (ih1 : ∀ lo hi fx a, NdV (wI w bi) b Dv Uv (cRows (wP w bi) lo hi fx a T1)) (hr2 : IsRef T2) (ih2 : ∀ lo hi fx a, NdV (wI w bi) b Dv Uv (cRows (wP w bi) lo hi fx a T2)) (hr3 : IsRef T3) (ih3 : ∀ lo hi fx a, NdV (wI w bi) b Dv Uv (cRows (wP w bi) lo hi fx a T3)) (lo hi fx : Nat) (a : Addr) : NdV (wI w bi) b (Dv + 8) (Uv + 60) (cRows (wP w bi) lo hi fx a (.node kd [T1, T2, T3])) := fun {ix} I => by
  refine node_open (PD := 48) (PU := 360) I rfl rfl (Nat.le_refl _) (Nat.le_refl _) rfl rfl fun f h hpf => ?_
  obtain ⟨hP, hS, hhi⟩ := hpf _ (.head _)
  cases hP with | node a d p kd ln k v vs ts _ _ _ _ _ _ oa od op r =>
  cases r with | cons q1 r =>
  obtain ⟨a1, rfl⟩ := isRef_at hr1 q1
  cases r with | cons q2 r =>
  obtain ⟨a2, rfl⟩ := isRef_at hr2 q2
  cases r with | cons q3 r =>
  obtain ⟨a3, rfl⟩ := isRef_at hr3 q3
  cases r with | nil =>
  exact .mk ⟨[⟨a, inst 38 d, false⟩, ⟨d, nodeO (wP w bi) kd ln p k v, false⟩, ⟨p, listO [.ref a1, .ref a2, .ref a3], false⟩], [treeF (wP w bi) lo hi (.ref a1) T1, treeF (wP w bi) lo hi (.ref a2) T2, treeF (wP w bi) lo hi (.ref a3) T3], [0], (cond bi 223 233), (cond bi (Kk [Kok,Kfe,130,Kfw,Kqy,129,Kns,136,Kma,Kma,Kma,Kof,Kmz,134,Kbc,132,Kmz]) (Kk [Kok,Kfe,130,Kfw,Kqy,129,Kpf,136,Kma,Kma,Kma,Kof,Kmz,134,Kbc,132,Kmz])), fun B t => .cons XT ((cRows (wP w bi) lo hi 0 a1 T1).spec []) fun x1 => .cons XT ((cRows (wP w bi) lo hi 2 a2 T2).spec []) fun x2 => .cons XT ((cRows (wP w bi) lo hi 4 a3 T3).spec []) fun x3 => .nil, (own3 oa od op), nd3 (get_ne oa od inst_node) (get_ne oa op inst_list) (get_ne od op node_list), (fun F hF => by
    rcases List.mem_cons.mp hF with rfl | hF
    · exact ⟨q1, treeF_stable _ _ _ _ _, hhi⟩
    rcases List.mem_cons.mp hF with rfl | hF
    · exact ⟨q2, treeF_stable _ _ _ _ _, hhi⟩
    rcases List.mem_cons.mp hF with rfl | hF
    · exact ⟨q3, treeF_stable _ _ _ _ _, hhi⟩
    cases hF), by rfl', fun B t => ⟨(ih1 _ _ _ _ (ixOk (by rfl'))).du, fun x1 => ⟨(ih2 _ _ _ _ (ixOk (by rfl'))).du, fun x2 => ⟨(ih3 _ _ _ _ (ixOk (by rfl'))).du, fun x3 => trivial⟩⟩⟩, fun B t => fun x1 x2 x3 => ⟨natAt [(x3.1 + 2), B], [((x3.1 + 2), listN [.str kd (v 0), .ref (x1.2.2 0), .ref (x2.2.2 0), .ref (x3.2.2 0)] 0)], [treeF (wP w bi) (x3.2.2 1) x3.1 (.ref (x3.2.2 0)) (rowsOf T3), treeF (wP w bi) (x2.2.2 1) x2.1 (.ref (x2.2.2 0)) (rowsOf T2), treeF (wP w bi) (x1.2.2 1) x1.1 (.ref (x1.2.2 0)) (rowsOf T1)], by clear hS hhi I hpf q1 q2 q3 oa od op ih1 ih2 ih3 hr1 hr2 hr3; cases b <;> cases bi <;> rfl', fun h' hB hs hf F hF => by
    obtain rfl := List.mem_singleton.mp hF
    have m (i : Nat) {q} (e : _ = some q) := hs q (List.mem_of_getElem? (i := i) e)
    exact ⟨.lst _ _ _ _ (m 0 rfl).2.1 (m 0 rfl).2.2 (m 0 rfl).1 (.cons (.str _ _) (.cons (kid (hf _ (List.mem_of_getElem? (i := 2) rfl))) (.cons (kid (hf _ (List.mem_of_getElem? (i := 1) rfl))) (.cons (kid (hf _ (List.mem_of_getElem? (i := 0) rfl))) .nil)))), treeF_stable _ _ _ _ _, Nat.le_refl _, Nat.le_refl _⟩⟩⟩
theorem rw_sr (w : World) (b bi : Bool) {Dv Uv : Nat} (kd : Str) (s1 : Str) (T2 : Tr) (hr2 : IsRef T2) (ih2 : ∀ lo hi fx a, NdV (wI w bi) b Dv Uv (cRows (wP w bi) lo hi fx a T2)) (lo hi fx : Nat) (a : Addr) : NdV (wI w bi) b (Dv + 8) (Uv + 60) (cRows (wP w bi) lo hi fx a (.node kd [.str s1, T2])) := fun {ix} I => by
  refine node_open (PD := 48) (PU := 360) I rfl rfl (Nat.le_refl _) (Nat.le_refl _) rfl rfl fun f h hpf => ?_
  obtain ⟨hP, hS, hhi⟩ := hpf _ (.head _)
  cases hP with | node a d p kd ln k v vs ts _ _ _ _ _ _ oa od op r =>
  cases r with | cons q1 r =>
  cases q1 with | str _ t1 =>
  cases r with | cons q2 r =>
  obtain ⟨a2, rfl⟩ := isRef_at hr2 q2
  cases r with | nil =>
  exact .mk ⟨[⟨a, inst 38 d, false⟩, ⟨d, nodeO (wP w bi) kd ln p k v, false⟩, ⟨p, listO [.str s1 t1, .ref a2], false⟩], [treeF (wP w bi) lo hi (.ref a2) T2], [0], (cond bi 189 199), (cond bi (Kk [Kok,Kfe,130,Kfw,Kqy,129,Kns,136,Kma,Kma,Kof,Kmz,134,Kbc,132,Kmz]) (Kk [Kok,Kfe,130,Kfw,Kqy,129,Kpf,136,Kma,Kma,Kof,Kmz,134,Kbc,132,Kmz])), fun B t => .cons XT ((cRowS s1).spec []) fun x1 => .cons XT ((cRows (wP w bi) lo hi 0 a2 T2).spec []) fun x2 => .nil, (own3 oa od op), nd3 (get_ne oa od inst_node) (get_ne oa op inst_list) (get_ne od op node_list), (fun F hF => by
    rcases List.mem_cons.mp hF with rfl | hF
    · exact ⟨q2, treeF_stable _ _ _ _ _, hhi⟩
    cases hF), by rfl', fun B t => ⟨(n_rowS w b bi _ (ixOk (by rfl'))).dm, fun x1 => ⟨(ih2 _ _ _ _ (ixOk (by rfl'))).du, fun x2 => trivial⟩⟩, fun B t => fun x1 x2 => ⟨natAt [(x2.1 + 2), B], [((x2.1 + 2), listN [.str kd (v 0), .str s1 (x1.2.2 0), .ref (x2.2.2 0)] 0)], [treeF (wP w bi) (x2.2.2 1) x2.1 (.ref (x2.2.2 0)) (rowsOf T2)], by clear hS hhi I hpf q2 oa od op ih2 hr2; cases b <;> cases bi <;> rfl', fun h' hB hs hf F hF => by
    obtain rfl := List.mem_singleton.mp hF
    have m (i : Nat) {q} (e : _ = some q) := hs q (List.mem_of_getElem? (i := i) e)
    exact ⟨.lst _ _ _ _ (m 0 rfl).2.1 (m 0 rfl).2.2 (m 0 rfl).1 (.cons (.str _ _) (.cons (.str _ _) (.cons (kid (hf _ (List.mem_of_getElem? (i := 0) rfl))) .nil))), treeF_stable _ _ _ _ _, Nat.le_refl _, Nat.le_refl _⟩⟩⟩
theorem rw_r (w : World) (b bi : Bool) {Dv Uv : Nat} (kd : Str) (T1 : Tr) (hr1 : IsRef T1) (ih1 : ∀ lo hi fx a, NdV (wI w bi) b Dv Uv (cRows (wP w bi) lo hi fx a T1)) (lo hi fx : Nat) (a : Addr) : NdV (wI w bi) b (Dv + 8) (Uv + 60) (cRows (wP w bi) lo hi fx a (.node kd [T1])) := fun {ix} I => by
  refine node_open (PD := 48) (PU := 360) I rfl rfl (Nat.le_refl _) (Nat.le_refl _) rfl rfl fun f h hpf => ?_
  obtain ⟨hP, hS, hhi⟩ := hpf _ (.head _)
  cases hP with | node a d p kd ln k v vs ts _ _ _ _ _ _ oa od op r =>
  cases r with | cons q1 r =>
  obtain ⟨a1, rfl⟩ := isRef_at hr1 q1
  cases r with | nil =>
  exact .mk ⟨[⟨a, inst 38 d, false⟩, ⟨d, nodeO (wP w bi) kd ln p k v, false⟩, ⟨p, listO [.ref a1], false⟩], [treeF (wP w bi) lo hi (.ref a1) T1], [0], (cond bi 155 165), (cond bi (Kk [Kok,Kfe,130,Kfw,Kqy,129,Kns,136,Kma,Kof,Kmz,134,Kbc,132,Kmz]) (Kk [Kok,Kfe,130,Kfw,Kqy,129,Kpf,136,Kma,Kof,Kmz,134,Kbc,132,Kmz])), fun B t => .cons XT ((cRows (wP w bi) lo hi 0 a1 T1).spec []) fun x1 => .nil, (own3 oa od op), nd3 (get_ne oa od inst_node) (get_ne oa op inst_list) (get_ne od op node_list), (fun F hF => by
    rcases List.mem_cons.mp hF with rfl | hF
    · exact ⟨q1, treeF_stable _ _ _ _ _, hhi⟩
    cases hF), by rfl', fun B t => ⟨(ih1 _ _ _ _ (ixOk (by rfl'))).du, fun x1 => trivial⟩, fun B t => fun x1 => ⟨natAt [(x1.1 + 2), B], [((x1.1 + 2), listN [.str kd (v 0), .ref (x1.2.2 0)] 0)], [treeF (wP w bi) (x1.2.2 1) x1.1 (.ref (x1.2.2 0)) (rowsOf T1)], by clear hS hhi I hpf q1 oa od op ih1 hr1; cases b <;> cases bi <;> rfl', fun h' hB hs hf F hF => by
    obtain rfl := List.mem_singleton.mp hF
    have m (i : Nat) {q} (e : _ = some q) := hs q (List.mem_of_getElem? (i := i) e)
    exact ⟨.lst _ _ _ _ (m 0 rfl).2.1 (m 0 rfl).2.2 (m 0 rfl).1 (.cons (.str _ _) (.cons (kid (hf _ (List.mem_of_getElem? (i := 0) rfl))) .nil)), treeF_stable _ _ _ _ _, Nat.le_refl _, Nat.le_refl _⟩⟩⟩
theorem rwl_r (w : World) (b bi : Bool) {Dv Uv : Nat} (T1 : Tr) (hr1 : IsRef T1) (ih1 : ∀ lo hi fx a, NdV (wI w bi) b Dv Uv (cRows (wP w bi) lo hi fx a T1)) (lo hi fx : Nat) (a : Addr) : NdV (wI w bi) b (Dv + 8) (Uv + 60) (cRows (wP w bi) lo hi fx a (.lst [T1])) := fun {ix} I => by
  refine node_open (PD := 48) (PU := 360) I rfl rfl (Nat.le_refl _) (Nat.le_refl _) rfl rfl fun f h hpf => ?_
  obtain ⟨hP, hS, hhi⟩ := hpf _ (.head _)
  cases hP with | lst a ln vs ts _ _ oa r =>
  cases r with | cons q1 r =>
  obtain ⟨a1, rfl⟩ := isRef_at hr1 q1
  cases r with | nil =>
  exact .mk ⟨[⟨a, listN [.ref a1] ln, false⟩], [treeF (wP w bi) lo hi (.ref a1) T1], [3], (cond bi 150 160), (cond bi (Kk [Kok,Kor,Kdt,Kdt,Kbn,Kbe,Kaq,Kai,130,Kal,Kai,129,Kns,134,Kjf,134,Kof]) (Kk [Kok,Kor,Kdt,Kdt,Kbn,Kbe,Kaq,Kai,130,Kal,Kai,129,Kpf,134,Kjf,134,Kof])), fun B t => .cons XT ((cRows (wP w bi) lo hi 0 a1 T1).spec []) fun x1 => .nil, (own1 oa), (nd1 _), (fun F hF => by
    rcases List.mem_cons.mp hF with rfl | hF
    · exact ⟨q1, treeF_stable _ _ _ _ _, hhi⟩
    cases hF), by rfl', fun B t => ⟨(ih1 _ _ _ _ (ixOk (by rfl'))).du, fun x1 => trivial⟩, fun B t => fun x1 => ⟨natAt [(B + 3), B], [((B + 3), listN [.ref (x1.2.2 0)] 1)], [treeF (wP w bi) (x1.2.2 1) x1.1 (.ref (x1.2.2 0)) (rowsOf T1)], by clear hS hhi I hpf q1 oa ih1 hr1; cases b <;> cases bi <;> rfl', fun h' hB hs hf F hF => by
    obtain rfl := List.mem_singleton.mp hF
    have m (i : Nat) {q} (e : _ = some q) := hs q (List.mem_of_getElem? (i := i) e)
    exact ⟨.lst _ _ _ _ (m 0 rfl).2.1 (m 0 rfl).2.2 (m 0 rfl).1 (.cons (kid (hf _ (List.mem_of_getElem? (i := 0) rfl))) .nil), treeF_stable _ _ _ _ _, Nat.le_refl _, Nat.le_refl _⟩⟩⟩
theorem rwl_rr (w : World) (b bi : Bool) {Dv Uv : Nat} (T1 T2 : Tr) (hr1 : IsRef T1) (ih1 : ∀ lo hi fx a, NdV (wI w bi) b Dv Uv (cRows (wP w bi) lo hi fx a T1)) (hr2 : IsRef T2) (ih2 : ∀ lo hi fx a, NdV (wI w bi) b Dv Uv (cRows (wP w bi) lo hi fx a T2)) (lo hi fx : Nat) (a : Addr) : NdV (wI w bi) b (Dv + 8) (Uv + 60) (cRows (wP w bi) lo hi fx a (.lst [T1, T2])) := fun {ix} I => by
  refine node_open (PD := 48) (PU := 360) I rfl rfl (Nat.le_refl _) (Nat.le_refl _) rfl rfl fun f h hpf => ?_
  obtain ⟨hP, hS, hhi⟩ := hpf _ (.head _)
  cases hP with | lst a ln vs ts _ _ oa r =>
  cases r with | cons q1 r =>
  obtain ⟨a1, rfl⟩ := isRef_at hr1 q1
  cases r with | cons q2 r =>
  obtain ⟨a2, rfl⟩ := isRef_at hr2 q2
  cases r with | nil =>
  exact .mk ⟨[⟨a, listN [.ref a1, .ref a2] ln, false⟩], [treeF (wP w bi) lo hi (.ref a1) T1, treeF (wP w bi) lo hi (.ref a2) T2], [3], (cond bi 184 194), (cond bi (Kk [Kok,Kor,Kdt,Kdt,Kbn,Kbe,Kaq,Kai,130,Kal,Kai,129,Kns,134,Kjf,134,Kjf,134,Kof]) (Kk [Kok,Kor,Kdt,Kdt,Kbn,Kbe,Kaq,Kai,130,Kal,Kai,129,Kpf,134,Kjf,134,Kjf,134,Kof])), fun B t => .cons XT ((cRows (wP w bi) lo hi 0 a1 T1).spec []) fun x1 => .cons XT ((cRows (wP w bi) lo hi 2 a2 T2).spec []) fun x2 => .nil, (own1 oa), (nd1 _), (fun F hF => by
    rcases List.mem_cons.mp hF with rfl | hF
    · exact ⟨q1, treeF_stable _ _ _ _ _, hhi⟩
    rcases List.mem_cons.mp hF with rfl | hF
    · exact ⟨q2, treeF_stable _ _ _ _ _, hhi⟩
    cases hF), by rfl', fun B t => ⟨(ih1 _ _ _ _ (ixOk (by rfl'))).du, fun x1 => ⟨(ih2 _ _ _ _ (ixOk (by rfl'))).du, fun x2 => trivial⟩⟩, fun B t => fun x1 x2 => ⟨natAt [(B + 3), B], [((B + 3), listN [.ref (x1.2.2 0), .ref (x2.2.2 0)] 2)], [treeF (wP w bi) (x2.2.2 1) x2.1 (.ref (x2.2.2 0)) (rowsOf T2), treeF (wP w bi) (x1.2.2 1) x1.1 (.ref (x1.2.2 0)) (rowsOf T1)], by clear hS hhi I hpf q1 q2 oa ih1 ih2 hr1 hr2; cases b <;> cases bi <;> rfl', fun h' hB hs hf F hF => by
    obtain rfl := List.mem_singleton.mp hF
    have m (i : Nat) {q} (e : _ = some q) := hs q (List.mem_of_getElem? (i := i) e)
    exact ⟨.lst _ _ _ _ (m 0 rfl).2.1 (m 0 rfl).2.2 (m 0 rfl).1 (.cons (kid (hf _ (List.mem_of_getElem? (i := 1) rfl))) (.cons (kid (hf _ (List.mem_of_getElem? (i := 0) rfl))) .nil)), treeF_stable _ _ _ _ _, Nat.le_refl _, Nat.le_refl _⟩⟩⟩
inductive RowOk : Tr → Prop
  | s (kd s1 : Str) : RowOk (.node kd [.str s1])
  | rs (kd s2 : Str) {T1 : Tr} (h1 : RowOk T1) : RowOk (.node kd [T1, .str s2])
  | rr (kd : Str) {T1 T2 : Tr} (h1 : RowOk T1) (h2 : RowOk T2) : RowOk (.node kd [T1, T2])
  | srr (kd s1 : Str) {T2 T3 : Tr} (h2 : RowOk T2) (h3 : RowOk T3) : RowOk (.node kd [.str s1, T2, T3])
  | rrr (kd : Str) {T1 T2 T3 : Tr} (h1 : RowOk T1) (h2 : RowOk T2) (h3 : RowOk T3) : RowOk (.node kd [T1, T2, T3])
  | sr (kd s1 : Str) {T2 : Tr} (h2 : RowOk T2) : RowOk (.node kd [.str s1, T2])
  | r (kd : Str) {T1 : Tr} (h1 : RowOk T1) : RowOk (.node kd [T1])
  | lr {T1 : Tr} (h1 : RowOk T1) : RowOk (.lst [T1])
  | lrr {T1 T2 : Tr} (h1 : RowOk T1) (h2 : RowOk T2) : RowOk (.lst [T1, T2])
theorem RowOk.isRef {T : Tr} (h : RowOk T) : IsRef T := by cases h <;> trivial
theorem dep_node {kd : Str} {l : List Tr} {m : Nat} (h : (Tr.node kd l).dep ≤ m + 1) {t : Tr} (ht : t ∈ l) : t.dep ≤ m := by
  have := depL_mem ht
  rw [Tr.dep] at h
  omega
theorem dep_lst {l : List Tr} {m : Nat} (h : (Tr.lst l).dep ≤ m + 1) {t : Tr} (ht : t ∈ l) : t.dep ≤ m := by
  have := depL_mem ht
  rw [Tr.dep] at h
  omega
theorem rows_all (w : World) (b bi : Bool) : ∀ (m : Nat) {T : Tr}, RowOk T → T.dep ≤ m → ∀ lo hi fx a, NdV (wI w bi) b (8 * m) (60 * m) (cRows (wI w bi).params lo hi fx a T)
  | 0, T, h, hd => by
    exfalso
    cases h <;> (rw [Tr.dep] at hd; omega)
  | m + 1, T, h, hd => fun lo hi fx a => by
    have IH := fun {T} h hd => rows_all w b bi m (T := T) h hd
    show NdV (wI w bi) b (8 * m + 8) (60 * m + 60) _
    cases h with
    | s kd s1 => exact rw_s w b bi kd s1 lo hi fx a
    | rs kd s2 h1 => exact rw_rs w b bi kd s2 _ h1.isRef (IH h1 (dep_node hd (.head _))) lo hi fx a
    | rr kd h1 h2 => exact rw_rr w b bi kd _ _ h1.isRef (IH h1 (dep_node hd (.head _))) h2.isRef (IH h2 (dep_node hd (.tail _ (.head _)))) lo hi fx a
    | srr kd s1 h2 h3 => exact rw_srr w b bi kd s1 _ _ h2.isRef (IH h2 (dep_node hd (.tail _ (.head _)))) h3.isRef (IH h3 (dep_node hd (.tail _ (.tail _ (.head _))))) lo hi fx a
    | rrr kd h1 h2 h3 => exact rw_rrr w b bi kd _ _ _ h1.isRef (IH h1 (dep_node hd (.head _))) h2.isRef (IH h2 (dep_node hd (.tail _ (.head _)))) h3.isRef (IH h3 (dep_node hd (.tail _ (.tail _ (.head _))))) lo hi fx a
    | sr kd s1 h2 => exact rw_sr w b bi kd s1 _ h2.isRef (IH h2 (dep_node hd (.tail _ (.head _)))) lo hi fx a
    | r kd h1 => exact rw_r w b bi kd _ h1.isRef (IH h1 (dep_node hd (.head _))) lo hi fx a
    | lr h1 => exact rwl_r w b bi _ h1.isRef (IH h1 (dep_lst hd (.head _))) lo hi fx a
    | lrr h1 h2 => exact rwl_rr w b bi _ _ h1.isRef (IH h1 (dep_lst hd (.head _))) h2.isRef (IH h2 (dep_lst hd (.tail _ (.head _)))) lo hi fx a
noncomputable def cRowsA (P : Params) (lo hi fx : Nat) (a : Addr) (T : Tr) : Cn := { cRows P lo hi fx a T with D := 112, U := 840 }
theorem n_rows (w : World) (b bi : Bool) {T : Tr} (h : RowOk T) (hd : T.dep ≤ 9) (lo hi fx : Nat) (a : Addr) : Nd (wI w bi) b (cRowsA (wI w bi).params lo hi fx a T) := fun {ix} I =>
  (rows_all w b bi 9 h hd lo hi fx a ⟨I.nd, I.len⟩).shift (C' := cRowsA (wI w bi).params lo hi fx a T) rfl (by show 40 + 8 * 9 ≤ 112; decide) (by show 300 + 60 * 9 ≤ 840; decide)
mutual
theorem rowT_rows : ∀ T : Tr, RowT (rowsOf T)
  | .str s => .str s
  | .lst l => .lst _ (rowTs_rows l)
  | .node kd l => .lst _ (.cons (.str kd) (rowTs_rows l))
theorem rowTs_rows : ∀ l : List Tr, RowTs (rowsL l)
  | [] => .nil
  | t :: l => .cons (rowT_rows t) (rowTs_rows l)
end
mutual
theorem dep_rows : ∀ T : Tr, (rowsOf T).dep ≤ T.dep
  | .str s => Nat.le_refl _
  | .lst l => by rw [rowsOf, Tr.dep, Tr.dep]; exact Nat.succ_le_succ (depL_rows l)
  | .node kd l => by
    rw [rowsOf, Tr.dep, Tr.dep, depL, Tr.dep, Nat.zero_max]
    exact Nat.succ_le_succ (depL_rows l)
theorem depL_rows : ∀ l : List Tr, depL (rowsL l) ≤ depL l
  | [] => Nat.le_refl _
  | t :: l => by
    rw [rowsL, depL, depL]
    have h1 := dep_rows t
    have h2 := depL_rows l
    omega
end
theorem eq_tree {P P' : Params} {lo hi lo' hi' : Nat} {h : Heap} : ∀ (n : Nat) {T : Tr} {v v' : Value}, RowT T → T.dep ≤ n → IsTree P lo hi h v T → IsTree P' lo' hi' h v' T → EqAt h (3 * n) v v'
  | n, .str s, _, _, _, _, x, y => by
    cases x with | str _ t =>
    cases y with | str _ u =>
    exact eqAt_str s t u
  | 0, .lst l, _, _, _, hd, _, _ => by rw [Tr.dep] at hd; omega
  | n + 1, .lst l, _, _, hT, hd, x, y => by
    cases hT with | lst _ hl =>
    cases x with | lst a na vs _ _ _ oa ra =>
    cases y with | lst a' na' vs' _ _ _ oa' ra' =>
    refine eqAt_list oa oa' ((trees_len ra).trans (trees_len ra').symm) fun j h1 h2 => ?_
    have h3 : j < l.length := trees_len ra ▸ h1
    exact eq_tree n (hl.mem (List.getElem_mem h3)) (dep_lst hd (List.getElem_mem h3)) (trees_at ra j h1 h3) (trees_at ra' j h2 h3)
  | _, .node _ _, _, _, hT, _, _, _ => nomatch hT
noncomputable def cNe (P P' : Params) (lo hi lo' hi' fx fy : Nat) (a a' : Addr) (T : Tr) : Cn := { co := fun _ => bcall "list.__ne__" [.ref a, .ref a'], sl := [], res := fun _ => okV (.bool false), pf := [(fx, treeF P lo hi (.ref a) T), (fy, treeF P' lo' hi' (.ref a') T)], pu := true, D := 0, U := 60 }
theorem n_ne (w : World) (b : Bool) (P P' : Params) (lo hi lo' hi' fx fy : Nat) (a a' : Addr) {T : Tr} (hT : RowT T) (hd : T.dep ≤ 9) (hn : ∃ l, T = .lst l) : Nd w b (cNe P P' lo hi lo' hi' fx fy a a' T) := fun {ix} I => by
  obtain ⟨l, rfl⟩ := hn
  refine node_ofF (C := cNe P P' lo hi lo' hi' fx fy a a' (.lst l)) ⟨.nil, fun _ h => nomatch h⟩ I fun f A h g d tk os R _ _ hU _ _ _ hpf _ _ hR => ?_
  · have x : IsTree P lo hi h (.ref a) (.lst l) := (hpf _ (.head _)).1
    have y : IsTree P' lo' hi' h (.ref a') (.lst l) := (hpf _ (.tail _ (.head _))).1
    cases hT with | lst _ hl =>
    cases x with | lst a na vs _ _ _ oa ra =>
    cases y with | lst a' na' vs' _ _ _ oa' ra' =>
    have hu : A.units + 60 ≤ cLine := hU
    refine codeAny_call_builtin PySem.F.slot_list_ne.plain PySem.F.entry_list_ne (PySem.F.slot_list_ne.check _ _ _ _ _ _ _ _ ⟨_, oa, rfl⟩ (PySem.F.args_list_ne_2 _ _) (nes_head (c := 27) oa oa' ((trees_len ra).trans (trees_len ra').symm) (fun j h1 h2 => ?_) _ _ A R _ rfl (by omega) ?_))
    · have h3 : j < l.length := trees_len ra ▸ h1
      exact eq_tree 9 (hl.mem (List.getElem_mem h3)) (Nat.le_succ_of_le (dep_lst (m := 8) hd (List.getElem_mem h3))) (trees_at ra j h1 h3) (trees_at ra' j h2 h3)
    · exact hR (0, tk, fun _ => 0) h ⟨fun _ _ e _ => e, rfl, Nat.le_refl _, fun p hp => (nomatch hp), fun p hp => (nomatch hp), .nil, fun F hF => (nomatch hF)⟩
noncomputable def parF (w : World) (b : Bool) (D U : Nat) : Par := ⟨pw, w.withFollow rowG b, ktOf w.params, D, U, true⟩
noncomputable def codeOf (r : Res) : Code := match r with
  | .stop c _ _ _ => c
  | _ => .func [] default
noncomputable def lawC (P : Par) (L : Addr) : Code := codeOf (goC P 30 (fcall 930 [.ref 0]) 34095529984 [] ⟨[], L, 0, []⟩).2
noncomputable def cutT (c : Code) (j : Nat) : Sem Fin := match c with
  | .func b env => fnT (execs (b.drop j) env) env
  | _ => .raise .none
noncomputable def cutS (P : Par) (c : Code) (j : Nat) : Sem Fin := skim ⟨P.prog, P.w.params⟩ 8 (cutT c j)
noncomputable def cutGo (P : Par) (L : Addr) (j n ks : Nat) (ls : List CSpec) (st : St) : Obs × Res := go P n (lawC P L) .base (cutS P (lawC P L) j) ks ls st []
noncomputable def lftS (k : Nat) (ids nids : List Nat) (x : Obs × Res) : List Side × Option OutT := match x.2 with
  | .stop c κ t st => match κ with
    | .base => (.cd c :: .tr t :: x.1.map (·.1), some (.ok .next, picks st.sl ids, picks st.sl nids, st.fs, allLt (Nat.sub (lenL st.sl) k) nids))
    | _ => ([], none)
  | _ => ([], none)
noncomputable def rgtS (P : Par) (L : Addr) (j : Nat) (x : Obs × Res) (ups adds : List (Addr × Obj)) (fs : List Fact) : List Side × Option OutT := (.cd (lawC P L) :: .tr (cutS P (lawC P L) j) :: x.1.map (·.2), some (.ok .next, somes ups, somes adds, fs, true))
noncomputable def cutA (P : Par) (scr : Addr) (j1 n ks : Nat) (ls : List CSpec) (st : St) (k : Nat) (ids nids : List Nat) (ups adds : List (Addr × Obj)) (fs : List Fact) : (List Side × Option OutT) × (List Side × Option OutT) :=
  (lftS k ids nids (goC P n (fcall 930 [.ref scr]) ks ls st), rgtS P st.sz j1 (goC P n (fcall 930 [.ref scr]) ks ls st) ups adds fs)
noncomputable def cutB (P : Par) (L : Addr) (j0 j1 n ks : Nat) (ls : List CSpec) (st : St) (k : Nat) (ids nids : List Nat) (ups adds : List (Addr × Obj)) (fs : List Fact) : (List Side × Option OutT) × (List Side × Option OutT) :=
  (lftS k ids nids (cutGo P L j0 n ks ls st), rgtS P L j1 (cutGo P L j0 n ks ls st) ups adds fs)
noncomputable def cutC (P : Par) (L : Addr) (j0 n ks : Nat) (ls : List CSpec) (st : St) (r : Result) : (List Side × Option Result) × (List Side × Option Result) :=
  (((cutGo P L j0 n ks ls st).1.map (·.1), resOf (cutGo P L j0 n ks ls st).2), ((cutGo P L j0 n ks ls st).1.map (·.2), some r))
abbrev Same {α : Type} (x : α × α) : Prop := x.1 = x.2
set_option maxHeartbeats 0 in
lay_quick Mine.cutA
set_option maxHeartbeats 0 in
lay_quick Mine.cutB
set_option maxHeartbeats 0 in
lay_quick Mine.cutC
abbrev cutAT := PySem.W.Fast.tw3760907275502643153
theorem cutA_eq : cutA = cutAT := PySem.W.Fast.te3760907275502643153
abbrev cutBT := PySem.W.Fast.tw8033451181510589071
theorem cutB_eq : cutB = cutBT := PySem.W.Fast.te8033451181510589071
abbrev cutCT := PySem.W.Fast.tw11872653715720973024
theorem cutC_eq : cutC = cutCT := PySem.W.Fast.te11872653715720973024
structure At0 (P : Par) (A : Around) (g : Array GenState) (d : Drawn) (os : OsState) (R : Result → Shared → Prop) (L : Addr) (j : Nat) (h : Heap) (tk : Nat) : Prop where
  go : Means' (Vof P h A R d os) (lawC P L) .base (cutS P (lawC P L) j) ⟨h, g, d, tk, os⟩
structure Env0 (P : Par) (A : Around) : Prop where
  hA : A.handled = none
  hD : A.depth + P.D ≤ recursionLimit
  hU : A.units + P.U ≤ cLine
  hF : P.fr = true → A.frames = some []
structure Mid (P : Par) (sl : List Slot) (O : List Fact) (h : Heap) : Prop where
  top : ∀ a o, P.kt.get a = some o → h.get? a = some o ∧ ∀ s ∈ sl, s.u = true → a ≠ s.a
  nol : h.NoLimit
  own : ∀ s ∈ sl, h.get? s.a = some s.o
  nd : (sl.map (·.a)).Nodup
  fact : ∀ F ∈ O, F.P h ∧ F.Stable ∧ F.hi ≤ h.objs.size ∧ ∀ s ∈ sl, s.u = true → s.a < F.lo ∨ F.hi ≤ s.a
noncomputable def upA (sl : List Slot) : List Addr := (sl.filter (·.u)).map (·.a)
theorem upA_mem {sl : List Slot} {a : Addr} : a ∈ upA sl ↔ ∃ s ∈ sl, s.u = true ∧ s.a = a := by
  unfold upA
  constructor
  · intro h
    obtain ⟨s, hs, e⟩ := List.mem_map.mp h
    obtain ⟨h1, h2⟩ := List.mem_filter.mp hs
    exact ⟨s, h1, h2, e⟩
  · rintro ⟨s, h1, h2, e⟩
    exact List.mem_map.mpr ⟨s, List.mem_filter.mpr ⟨h1, h2⟩, e⟩
section
variable {P : Par} {A : Around} {g : Array GenState} {d : Drawn} {os : OsState} {R : Result → Shared → Prop}
theorem lftS_ends {V : XV} {h₀ : Heap} {M₀ I₀ : List Addr} {O : List Fact} {L j : Nat} {x : Obs × Res} {k : Nat} {ids nids : List Nat} {ups adds : List (Addr × Obj)} {fs : List Fact}
    (e : lftS k ids nids x = rgtS P L j x ups adds fs) (hk : I₀.length = k) (hn : nids.Nodup)
    (H : ∀ h tk, Fin1 h₀ M₀ O ups adds fs h → Means' V (lawC P L) .base (cutS P (lawC P L) j) ⟨h, g, d, tk, os⟩) : Ends V h₀ M₀ I₀ O g d os R x := by
  obtain ⟨ob, r⟩ := x
  cases r with
  | done r st => exact nomatch congrArg Prod.snd e
  | fail n => exact nomatch congrArg Prod.snd e
  | stop c κ t st =>
    cases κ with
    | base =>
      have e1 := congrArg Prod.fst e
      have e2 := congrArg Prod.snd e
      obtain ⟨ec, e3⟩ := List.cons.inj e1
      obtain ⟨et, e4⟩ := List.cons.inj e3
      have ec' : c = lawC P L := Side.cd.inj ec
      have et' : t = cutS P (lawC P L) j := Side.tr.inj et
      subst ec'
      subst et'
      refine ⟨e4, fun h tk D => H h tk ?_⟩
      have e5 : RunEq k ids nids (ob, .done (.ok .next) st) (.ok .next) ups adds fs := by
        refine Prod.ext e4 ?_
        exact e2
      have z := ends_of (V := V) (h₀ := h₀) (M₀ := M₀) (I₀ := I₀) (O := O) (g := g) (d := d) (os := os) (R₀ := fun _ s => Fin1 h₀ M₀ O ups adds fs s.heap) e5 hk hn (fun h tk F => F)
      exact z.2 h tk D
    | ret => exact nomatch congrArg Prod.snd e
    | gen => exact nomatch congrArg Prod.snd e
    | genS => exact nomatch congrArg Prod.snd e
theorem piece (E : Env0 P A) (hcs : ∃ o, P.kt.get cStatics = some o) {L j0 j1 : Nat} {h : Heap} {tk : Nat} {sl : List Slot} {O : List Fact} (M : Mid P sl O h) (T : Tele) (v : ValidT P 0 0 T) (n ks : Nat) (ids nids : List Nat) (hn : ndB nids = true) {F : (List (Addr × Obj) → List (Addr × Obj) → List Fact → Prop)}
    (H : AllT T fun l => ∃ ups adds fs, Same (cutBT P L j0 j1 n ks l ⟨sl, h.objs.size, tk, O⟩ sl.length ids nids ups adds fs) ∧ F ups adds fs)
    (K : ∀ ups adds fs h' tk', F ups adds fs → Fin1 h (upA sl) O ups adds fs h' → At0 P A g d os R L j1 h' tk') : At0 P A g d os R L j0 h tk := by
  have D : RepS h (upA sl) (sl.map (·.a)) O ⟨sl, h.objs.size, tk, O⟩ h tk := ⟨rfl, rfl, M.own, M.nd, fun s hs q => .inl (upA_mem.mpr ⟨s, hs, q, rfl⟩), fun _ _ e _ => e, Nat.le_refl _, M.fact, ⟨[], rfl, fun _ h => (nomatch h)⟩, ⟨[], rfl, fun _ h => (nomatch h)⟩⟩
  have top : ∀ a o, P.kt.get a = some o → h.get? a = some o ∧ a ∉ upA sl := fun a o e => ⟨(M.top a o e).1, fun hm => by
    obtain ⟨s, hs, q, ea⟩ := upA_mem.mp hm
    exact (M.top a o e).2 s hs q ea.symm⟩
  obtain ⟨oc, hoc⟩ := hcs
  refine ⟨?_⟩
  show Means' (Vof P h A R d os) (lawC P L) .base (cutS P (lawC P L) j0) ⟨h, g, d, tk, os⟩
  refine sound (A₀ := A) (R₀ := R) (d := d) (os := os) (g := g) (h₀ := h) (M₀ := upA sl) (I₀ := sl.map (·.a)) (O := O) (Dv := 0) (Uv := 0) top M.nol (top _ _ hoc).2 E.hA (by have := E.hD; omega) (by have := E.hU; omega) E.hF n (lawC P L) .base (cutS P (lawC P L) j0) ks T ⟨sl, h.objs.size, tk, O⟩ [] h tk v ?_ D
  refine H.mono fun l ⟨ups, adds, fs, e, hf⟩ => ?_
  have e' : Same (cutB P L j0 j1 n ks l ⟨sl, h.objs.size, tk, O⟩ sl.length ids nids ups adds fs) := by rw [cutB_eq]; exact e
  refine lftS_ends (P := P) (L := L) (j := j1) (ids := ids) (nids := nids) (k := sl.length) e' (List.length_map ..) (ndB_nd hn) fun h' tk' X => ?_
  exact (K ups adds fs h' tk' hf X).go
theorem pieceA (E : Env0 P A) (hcs : ∃ o, P.kt.get cStatics = some o) {scr : Addr} {j1 : Nat} {h : Heap} {tk : Nat} {sl : List Slot} {O : List Fact} (M : Mid P sl O h) (T : Tele) (v : ValidT P 0 0 T) (n ks : Nat) (ids nids : List Nat) (hn : ndB nids = true) {F : (List (Addr × Obj) → List (Addr × Obj) → List Fact → Prop)}
    (H : AllT T fun l => ∃ ups adds fs, Same (cutAT P scr j1 n ks l ⟨sl, h.objs.size, tk, O⟩ sl.length ids nids ups adds fs) ∧ F ups adds fs)
    (K : ∀ ups adds fs h' tk', F ups adds fs → Fin1 h (upA sl) O ups adds fs h' → At0 P A g d os R h.objs.size j1 h' tk') : codeAny (model P.prog P.w) A (fcall 930 [.ref scr]) R ⟨h, g, d, tk, os⟩ := by
  have D : RepS h (upA sl) (sl.map (·.a)) O ⟨sl, h.objs.size, tk, O⟩ h tk := ⟨rfl, rfl, M.own, M.nd, fun s hs q => .inl (upA_mem.mpr ⟨s, hs, q, rfl⟩), fun _ _ e _ => e, Nat.le_refl _, M.fact, ⟨[], rfl, fun _ h => (nomatch h)⟩, ⟨[], rfl, fun _ h => (nomatch h)⟩⟩
  have top : ∀ a o, P.kt.get a = some o → h.get? a = some o ∧ a ∉ upA sl := fun a o e => ⟨(M.top a o e).1, fun hm => by
    obtain ⟨s, hs, q, ea⟩ := upA_mem.mp hm
    exact (M.top a o e).2 s hs q ea.symm⟩
  obtain ⟨oc, hoc⟩ := hcs
  suffices K2 : AllT T (fun l => Ends (Vof P h A R d os) h (upA sl) (sl.map (·.a)) O g d os R (goC P n (fcall 930 [.ref scr]) ks l ⟨sl, h.objs.size, tk, O⟩)) by
    have z := sound (A₀ := A) (R₀ := R) (d := d) (os := os) (g := g) (h₀ := h) (M₀ := upA sl) (I₀ := sl.map (·.a)) (O := O) (Dv := 0) (Uv := 0) top M.nol (top _ _ hoc).2 E.hA (by have := E.hD; omega) (by have := E.hU; omega) E.hF n (fcall 930 [.ref scr]) .base (denote treeTable (fcall 930 [.ref scr])) ks T ⟨sl, h.objs.size, tk, O⟩ [] h tk v K2 D
    rw [← table_eq_tree] at z
    exact y_code _ _ _ _ _ _ z
  refine H.mono fun l ⟨ups, adds, fs, e, hf⟩ => ?_
  have e' : Same (cutA P scr j1 n ks l ⟨sl, h.objs.size, tk, O⟩ sl.length ids nids ups adds fs) := by rw [cutA_eq]; exact e
  exact lftS_ends (P := P) (L := h.objs.size) (j := j1) (ids := ids) (nids := nids) (k := sl.length) e' (List.length_map ..) (ndB_nd hn) fun h' tk' X => (K ups adds fs h' tk' hf X).go
theorem pieceC (E : Env0 P A) (hcs : ∃ o, P.kt.get cStatics = some o) {L j0 : Nat} {h : Heap} {tk : Nat} {sl : List Slot} {O : List Fact} (M : Mid P sl O h) (T : Tele) (v : ValidT P 0 0 T) (n ks : Nat) (r : Result)
    (H : AllT T fun l => Same (cutCT P L j0 n ks l ⟨sl, h.objs.size, tk, O⟩ r))
    (K : ∀ h' tk', (∀ b o, h.get? b = some o → b ∉ upA sl → h'.get? b = some o) → h.objs.size ≤ h'.objs.size → R r ⟨h', g, d, tk', os⟩) : At0 P A g d os R L j0 h tk := by
  have D : RepS h (upA sl) (sl.map (·.a)) O ⟨sl, h.objs.size, tk, O⟩ h tk := ⟨rfl, rfl, M.own, M.nd, fun s hs q => .inl (upA_mem.mpr ⟨s, hs, q, rfl⟩), fun _ _ e _ => e, Nat.le_refl _, M.fact, ⟨[], rfl, fun _ h => (nomatch h)⟩, ⟨[], rfl, fun _ h => (nomatch h)⟩⟩
  have top : ∀ a o, P.kt.get a = some o → h.get? a = some o ∧ a ∉ upA sl := fun a o e => ⟨(M.top a o e).1, fun hm => by
    obtain ⟨s, hs, q, ea⟩ := upA_mem.mp hm
    exact (M.top a o e).2 s hs q ea.symm⟩
  obtain ⟨oc, hoc⟩ := hcs
  refine ⟨?_⟩
  show Means' (Vof P h A R d os) (lawC P L) .base (cutS P (lawC P L) j0) ⟨h, g, d, tk, os⟩
  refine sound (A₀ := A) (R₀ := R) (d := d) (os := os) (g := g) (h₀ := h) (M₀ := upA sl) (I₀ := sl.map (·.a)) (O := O) (Dv := 0) (Uv := 0) top M.nol (top _ _ hoc).2 E.hA (by have := E.hD; omega) (by have := E.hU; omega) E.hF n (lawC P L) .base (cutS P (lawC P L) j0) ks T ⟨sl, h.objs.size, tk, O⟩ [] h tk v ?_ D
  refine H.mono fun l e => ?_
  have e' : Same (cutC P L j0 n ks l ⟨sl, h.objs.size, tk, O⟩ r) := by rw [cutC_eq]; exact e
  have e1 : (cutGo P L j0 n ks l ⟨sl, h.objs.size, tk, O⟩).1.map (·.1) = (cutGo P L j0 n ks l ⟨sl, h.objs.size, tk, O⟩).1.map (·.2) := congrArg Prod.fst e'
  have e2 : resOf (cutGo P L j0 n ks l ⟨sl, h.objs.size, tk, O⟩).2 = some r := congrArg Prod.snd e'
  refine ⟨e1, ?_⟩
  show match (cutGo P L j0 n ks l ⟨sl, h.objs.size, tk, O⟩).2 with
    | .done r st => _
    | .stop c κ t st => _
    | .fail _ => _
  cases q : (cutGo P L j0 n ks l ⟨sl, h.objs.size, tk, O⟩).2 with
  | fail n => rw [q] at e2; cases e2
  | stop => rw [q] at e2; cases e2
  | done r3 st3 =>
    rw [q] at e2
    have e4 : r3 = r := Option.some.inj e2
    subst e4
    exact fun h' tk' X => K h' tk' X.keep X.grow
end
noncomputable def intL (xs : List (Int × Nat)) : List Value := xs.map fun p => .int p.1 p.2
theorem intL_items (xs : List (Int × Nat)) : (intL xs).toArray = intItems xs.toArray := by simp [intL, intItems]
theorem listN_isList {h : Heap} {a : Addr} {l : List Value} {n : Nat} (ho : h.get? a = some (listN l n)) : h.IsList a l.toArray := ⟨_, ho, rfl, n, rfl⟩
section
variable {prog : Program} {w : World} {A : Around} {s : Shared} {R : Result → Shared → Prop}
theorem code_tree {id : String} {b : Builtin} {args : List Value} (hk : builtinKind id = none) (hp : plainId id = true) (hb : entryFor table id = some b) (ha : argsOk id ⟨args, []⟩)
    (hc : wpAny (model prog w) A.in1 (b ⟨args, []⟩) (fun fin s' => match fin with | .done f => R (.ok f) s' | .again c' => c'.quiet = true ∧ codeAny (model prog w) A c' R s') (fun e s' => R (.error e) s') s) : codeAny (model prog w) A (.call (.builtin id) ⟨args, []⟩) R s := by
  refine codeAny_call_builtin hp hb ?_
  simp only [checkBuiltinCall, hk]
  cases hsig : Manifest.signature? id with
  | none => exact wpAny_pure hc
  | some sig =>
    simp only [argsOk, hsig] at ha
    have h2 : Bind.checkArgs id sig ⟨args, []⟩ = pure () := ha
    show wpAny _ A.in1 (Bind.checkArgs id sig ⟨args, []⟩) _ _ s
    rw [h2]
    exact wpAny_pure hc
theorem code_sum {l : Addr} {xs : List (Int × Nat)} {n : Nat} (hh : A.handled = none) (hl : s.heap.get? l = some (listN (intL xs) n))
    (h : ∀ h' tk t', (∀ b o, s.heap.get? b = some o → h'.get? b = some o) → R (.ok (.ret (.int (preSum (numAt xs.toArray) xs.length) t'))) { s with heap := h', toks := tk }) :
    codeAny (model prog w) A (.call (.builtin "sum") ⟨[.ref l], []⟩) R s := by
  have hl' : s.heap.IsList l (intItems xs.toArray) := by rw [← intL_items]; exact listN_isList hl
  refine code_tree PySem.F.kind_sum PySem.F.plain_sum PySem.F.entry_sum (PySem.F.args_sum1 _) ?_
  unfold Builtin.«sum»
  simp only [List.length_cons, List.length_nil]
  rw [if_neg (by decide)]
  refine wpAny_bind (wpAny_of_eq (show Builtin.Builtins.bindParams "sum" ["start"] 0 { } = pure [none] from rfl) ?_)
  refine wpAny_bind (iter_intList hl' fun s₂ e st hfp hlI => ?_)
  refine wpAny_bind (wpAny_mkInt ?_)
  refine wpAny_bind (wpAny_pure ?_)
  simp only [List.forIn_cons, List.forIn_nil]
  refine wpAny_bind (wpAny_bind (wpAny_bind (wpAny_isInstance (T := "int") (b := false) (typeIs_int _ _ _) PySem.sub_int_str ?_)))
  simp only [Bool.false_eq_true, if_false]
  refine wpAny_pure (wpAny_bind (wpAny_bind (wpAny_isInstance (T := "int") (b := false) (typeIs_int _ _ _) PySem.sub_int_bytes ?_)))
  simp only [Bool.false_eq_true, if_false]
  refine wpAny_pure (wpAny_bind (wpAny_bind (wpAny_isInstance (T := "int") (b := false) (typeIs_int _ _ _) PySem.sub_int_bytearray ?_)))
  simp only [Bool.false_eq_true, if_false]
  refine wpAny_pure (wpAny_pure ?_)
  refine wpAny_bind (wpAny_newObj_type ?_)
  have W := Walks.list (prog := prog) (w := w) (A := A.in1) hh s.heap.objs.size l hlI (intItems xs.toArray)
  have hSf : s₂.heap.objs.size ∉ [s.heap.objs.size, l] := fun hm => Nat.lt_irrefl _ (hfp _ hm)
  refine wpAny_pure ⟨plainId_quiet PySem.F.plain_sum_loop _, codeAny_sum_loopG W (numAt xs.toArray) (fun _ _ => intItems_at) s₂.heap.objs.size hSf (intItems xs.toArray).size 0 _ s₂.toks 0 0 (Or.inl rfl) rfl (Nat.zero_le _)
    (W.frame _ _ _ st fun b _ o e => Heap.get?_push_of_some _ e) (Heap.get?_push_size _ rfl) fun h' tk t' hk => ?_⟩
  subst e
  have z := h h' tk t' fun b o hb => by
    have lt := Heap.lt_size hb
    refine hk b o (fun hm => ?_) (fun e => ?_) (Heap.get?_push_of_some _ (Heap.get?_push_of_some _ hb))
    · rcases List.mem_cons.mp hm with e | hm
      · rw [e] at lt; exact Nat.lt_irrefl _ lt
      · cases hm
    · have e' : b = (s.heap.push _).objs.size := e
      rw [Heap.size_push] at e'
      exact absurd e' (Nat.ne_of_lt (Nat.lt_succ_of_lt lt))
  simpa [intItems] using z
end
noncomputable def cSum (l : Addr) (xs : List (Int × Nat)) (n : Nat) : Cn := { co := fun _ => bcall "sum" [.ref l], sl := [⟨l, listN (intL xs) n, false⟩], res := fun y => okV (.int (preSum (numAt xs.toArray) xs.length) (y 0)), zq := some l, D := 0, U := 0 }
theorem n_sum (w : World) (b : Bool) (l : Addr) (xs : List (Int × Nat)) (n : Nat) : Nd w b (cSum l xs n) := fun {ix} I =>
  node_ofF (C := cSum l xs n) ⟨.nil, fun _ h => nomatch h⟩ I fun f A h g d tk os R hA _ _ _ own _ _ _ hz hR => by
    have hl := own _ (.head _)
    have hsz : h.objs.size = l + 1 := hz l rfl
    refine code_sum (s := ⟨h, g, d, tk, os⟩) hA hl fun h' tk' t' hk => ?_
    refine hR (h'.objs.size, tk', fun _ => t') h' ⟨fun b o e _ => hk b o e, rfl, ?_, fun p hp => (nomatch hp), fun p hp => (nomatch hp), .nil, fun F hF => (nomatch hF)⟩
    rw [hsz]
    exact Heap.lt_size (hk l _ hl)
noncomputable def slO (a b c : Value) : Obj := ⟨.type "slice", none, .fields #[a, b, c], #[]⟩
noncomputable def sliceSpec (l sl : Addr) (vs : List Value) (n t m : Nat) (ix : List Nat) (x : XL) : CSpec :=
  { code := fun _ => bcall "list.__getitem__" [.ref l, .ref sl], pre := zipP ix [⟨l, listN vs n, false⟩, ⟨sl, slO .none (.int m t) .none, false⟩], res := okV (.ref x.1), upd := [], add := [(x.1, listN (vs.take m) 0)], sz := x.1 + 1, tk := x.2.1, fs := [], dl := 0, ul := 0, pu := false, au := false, pf := [], fl := none, zq := none }
theorem n_slice (w : World) (b : Bool) (l sl : Addr) (vs : List Value) (n t m : Nat) (hm : vs.length ≤ sizeLine) (i1 i2 : Nat) (hi : i1 ≠ i2) : Node (par w b 0 0) 0 0 XL (sliceSpec l sl vs n t m [i1, i2]) where
  ne := ⟨(0, 0, fun _ => 0, fun _ => #[])⟩
  same := by
    refine ⟨fun _ => bcall "list.__getitem__" [.ref l, .ref sl], zipP [i1, i2] [⟨l, listN vs n, false⟩, ⟨sl, slO .none (.int m t) .none, false⟩], 0, 0, [], [], none, none, ?_, .nil, fun x => ⟨rfl, rfl, rfl, rfl, rfl, rfl, rfl, rfl⟩, ?_⟩
    · show [i1, i2].Nodup
      simpa using hi
    · intro c A h g d tk os R ec hA hD hU hC hp hn hun _ _ _ hR
      rw [ec]
      obtain ⟨o1, ho1, e1⟩ := hp _ (.head _)
      obtain ⟨o2, ho2, e2⟩ := hp _ (.tail _ (.head _))
      have ho1' : h.get? l = some (listN vs n) := by rw [ho1]; exact congrArg some e1
      have ho2' : h.get? sl = some (slO .none (.int m t) .none) := by rw [ho2]; exact congrArg some e2
      have hl := listN_isList ho1'
      obtain ⟨o, ho, hc, ne, hd⟩ := id hl
      have hds : (slO .none (.int m t) .none).data = .fields #[.none, .int m t, .none] := rfl
      have hTs : (⟨h, g, d, tk, os⟩ : Shared).TypeIs (.ref sl) "slice" := ⟨_, ho2', rfl⟩
      refine codeAny_call_builtin PySem.slot_list_getitem.plain PySem.entry_list_getitem (PySem.slot_list_getitem.check _ _ _ _ _ _ _ _ hl.typeIs (PySem.args_list_getitem _ _) ?_)
      show wpAny _ _ (Builtin.List.listSubscript? (.ref sl) >>= _) _ _ _
      refine wpAny_bind ?_
      unfold Builtin.List.listSubscript?
      refine wpAny_bind (wpAny_specialOf hTs slice_no_index ?_)
      simp only [Option.isNone_none, if_true]
      refine wpAny_pure ?_
      show wpAny _ _ (typeOf (.ref sl) >>= _) _ _ _
      refine wpAny_bind (wpAny_typeOf hTs ?_)
      rw [if_neg (by decide)]
      rw [listSliceParts_eq]
      refine wpAny_bind (wpAny_bind (wpAny_field ho2' hds (x := .none) rfl (wpAny_bind (wpAny_listPart (k := none) .none ?_))))
      rw [if_neg (by decide)]
      refine wpAny_bind (wpAny_field ho2' hds (x := .none) rfl (wpAny_bind (wpAny_listPart (k := none) .none ?_)))
      refine wpAny_bind (wpAny_field ho2' hds (x := .int m t) rfl (wpAny_bind (wpAny_listPart (k := some m) (.int _ _) (wpAny_pure ?_))))
      refine wpAny_bind (m := Builtin.List.listItems (.ref l)) ?_
      unfold Builtin.List.listItems
      refine wpAny_bind (wpAny_seqItems ho hd (wpAny_pure ?_))
      refine wpAny_bind (wpAny_of_eq (sliceIndices_raw none (some m) none _ (fun e => nomatch e)) ?_)
      refine wpAny_bind (wpAny_newObj_type (wpAny_pure ?_) ?_)
      · have hp1 : slicePick vs.toArray none (some (m : Int)) none = (vs.take m).toArray := by
          by_cases hm2 : m ≤ vs.length
          · exact slicePick_upto vs.toArray m (by simpa using hm2)
          · have hb : sliceBounds none (some (m : Int)) none vs.toArray.size = sliceBounds none none none vs.toArray.size := by
              simp only [sliceBounds, List.size_toArray, Option.getD_none]
              have h0 : ¬ ((m : Int) < 0) := by omega
              have h1 : (1 : Int) > 0 := by decide
              simp only [h0, h1, if_true, if_false]
              have h2 : max (0 : Int) (min (m : Int) (vs.length : Int)) = (vs.length : Int) := by omega
              rw [h2]
            have hs : slicePick vs.toArray none (some (m : Int)) none = slicePick vs.toArray none none none := by unfold slicePick; rw [hb]
            rw [hs, slicePick_all, List.take_of_length_le (by omega)]
        have hp2 : ((sliceRange (sliceBounds none (some (m : Int)) none vs.toArray.size).1 (sliceBounds none (some (m : Int)) none vs.toArray.size).2.1 (sliceBounds none (some (m : Int)) none vs.toArray.size).2.2).filterMap (vs.toArray[·]?)).toArray = (vs.take m).toArray := hp1
        show R (.ok (.ret (.ref h.objs.size))) ⟨h.push _, g, d, tk, os⟩
        refine hR (h.objs.size, tk, fun _ => 0, fun _ => #[]) _ ⟨fun b o e _ => Heap.get?_push_of_some _ e, Heap.size_push .., ?_, fun p hp => (nomatch hp), fun p hp => ?_, List.nodup_cons.mpr ⟨fun h => (nomatch h), .nil⟩, fun F hF => (nomatch hF)⟩
        · rw [Heap.size_push]; exact Nat.le_succ _
        · rcases List.mem_cons.mp hp with rfl | hp
          · refine ⟨?_, Nat.le_refl _⟩
            rw [Heap.get?_push_size _ rfl]
            rw [hp2]; rfl
          · cases hp
      · exact Nat.le_trans (slicePick_size_le vs.toArray none (some m) none) (by simpa using hm)
section
variable {prog : Program} {w : World} {A : Around} {s : Shared} {R : Result → Shared → Prop}
theorem getL_tree {l : Addr} {vs : List Value} {n t : Nat} {k : Int} {x : Value} (ho : s.heap.get? l = some (listN vs n)) (h0 : 0 ≤ k) (hfit : k < 2 ^ 63) (hx : vs.toArray[k.toNat]? = some x) (h : R (.ok (.ret x)) s) :
    wpAny (model prog w) A.in1 (Builtin.«list.__getitem__» ⟨[.ref l, .int k t], []⟩) (fun fin s' => match fin with | .done f => R (.ok f) s' | .again c' => c'.quiet = true ∧ codeAny (model prog w) A c' R s') (fun e s' => R (.error e) s') s := by
  have hf := fitsIndex_of h0 hfit
  clear hfit
  show wpAny _ _ (Builtin.List.listSubscript? (.int k t) >>= _) _ _ s
  refine wpAny_bind (wpAny_listSubscript_int hf ?_)
  clear hf
  obtain ⟨j, rfl⟩ := Int.eq_ofNat_of_zero_le h0
  have hx' : vs.toArray[j]? = some x := hx
  show wpAny _ _ ((seqItemAt l j >>= fun r => pure (r.map (j, ·))) >>= _) _ _ s
  refine wpAny_bind (wpAny_bind (wpAny_seqItemAt ho rfl (wpAny_pure ?_)))
  rw [hx']
  exact wpAny_pure h
theorem code_getL {l : Addr} {vs : List Value} {n t : Nat} {k : Int} {x : Value} (ho : s.heap.get? l = some (listN vs n)) (h0 : 0 ≤ k) (hfit : k < 2 ^ 63) (hx : vs.toArray[k.toNat]? = some x) (h : R (.ok (.ret x)) s) :
    codeAny (model prog w) A (.call (.builtin "list.__getitem__") ⟨[.ref l, .int k t], []⟩) R s :=
  codeAny_call_builtin PySem.slot_list_getitem.plain PySem.entry_list_getitem (PySem.slot_list_getitem.check _ _ _ _ _ _ _ _ (listN_isList ho).typeIs (PySem.args_list_getitem (.ref l) (.int k t)) (getL_tree ho h0 hfit hx h))
theorem fit1000 {k : Nat} (h : k < 1000) : (k : Int) < 2 ^ 63 := by omega
end
noncomputable def cGetL (l : Addr) (vs : List Value) (n k : Nat) (x : Value) : Cn := { co := fun f => bcall "list.__getitem__" [.ref l, .int k (f 1)], sl := [⟨l, listN vs n, false⟩], res := fun _ => okV x, pu := true, D := 0, U := 0 }
theorem n_getL (w : World) (b : Bool) (l : Addr) (vs : List Value) (n k : Nat) (x : Value) (hk : k < 1000) (hx : vs[k]? = some x) : Nd w b (cGetL l vs n k x) := fun {ix} I =>
  node_pure ⟨.nil, fun _ h => nomatch h⟩ I rfl rfl (fun _ => rfl) (fun _ => rfl) fun f A s R _ own hR => code_getL (own _ (.head _)) (Int.natCast_nonneg k) (fit1000 hk) (by simpa using hx) (hR (fun _ => 0) s.toks)
noncomputable def cLenL (l : Addr) (vs : List Value) (n : Nat) : Cn := { co := fun f => bcall "len" [.ref l], sl := [⟨l, listN vs n, false⟩], res := fun y => okV (.int vs.length (y 0)), pu := true, D := 0, U := 0 }
theorem n_lenL (w : World) (b : Bool) (l : Addr) (vs : List Value) (n : Nat) (h : vs.length < 2 ^ 63) : Nd w b (cLenL l vs n) := fun {ix} I =>
  node_pure ⟨.nil, fun _ h => nomatch h⟩ I rfl rfl (fun _ => rfl) (fun _ => rfl) fun f A s R _ own hR => by
    have ho := own _ (.head _)
    obtain ⟨hp, g, d, tk, os⟩ := s
    have ho' : hp.get? l = some (listN vs n) := ho
    refine code_function kind_len plain_len entry_len (args_len1 _) ?_
    unfold Builtin.«len»
    refine wpAny_bind (m := oneArg "len" _) (wpAny_pure ?_)
    refine wpAny_bind (m := callSpecial? (.ref l) (Z "__len__")) (wpAny_callSpecial?_slot (name := Z "__len__") (listN_isList ho').typeIs PySem.slot_list_len (wpAny_call_entry PySem.slot_list_len (listN_isList ho').typeIs PySem.entry_list_len ?_ (PySem.args_list_len _)))
    show wpAny _ _ (do retInt (← seqSize l)) _ _ _
    unfold seqSize
    refine wpAny_bind (wpAny_bind (wpAny_loadPart ho' (wpAny_pure ?_)))
    show wpAny _ _ (retInt (vs.toArray.size : Nat)) _ _ _
    refine wpAny_bind (wpAny_mkInt (wpAny_pure ⟨_, rfl, ?_⟩))
    refine wpAny_bind (wpAny_holding (wpAny_pure ?_))
    refine wpAny_bind (wpAny_letGo ?_)
    have e : ((vs.toArray.size : Nat) : Int) = (vs.length : Int) := by simp
    rw [e]
    show wpAny _ _ (if (vs.length : Int) < 0 then _ else _) _ _ _
    rw [if_neg (by omega)]
    show wpAny _ _ (if (vs.length : Int) ≥ 2 ^ 63 then _ else _) _ _ _
    rw [if_neg (by omega)]
    exact wpAny_bind (wpAny_mkInt (wpAny_pure ⟨_, rfl, hR (fun _ => _) _⟩))
noncomputable def cAddS (x y : Str) : Cn := cVal (fun f => bcall "str.__add__" [.str x (f 0), .str y (f 1)]) fun z => .str (x ++ y) (z 0)
theorem str_nil {x : Str} (h : x.length = 0) : x = ⟨#[]⟩ := by
  cases x with | mk a =>
  have : a.size = 0 := h
  simp [Array.eq_empty_of_size_eq_zero this]
theorem n_addS (w : World) (b : Bool) (x y : Str) (h : (x ++ y).length ≤ sizeLine) : Nd w b (cAddS x y) := fun {ix} I =>
  n_val I fun f A s R hR => code_slot PySem.F.slot_str_add (typeIs_str s x (f 0)) PySem.F.entry_str_add (PySem.F.args_str_add_2 _ _) (gives_str_add x y (f 0) (f 1)) (by
    split
    · rename_i h0
      have := str_nil (by simpa using h0)
      subst this
      have e : (⟨#[]⟩ : Str) ++ y = y := by
        cases y with | mk a =>
        show (⟨#[] ++ a⟩ : Str) = ⟨a⟩
        simp
      rw [e] at hR
      exact hR (fun _ => f 1) s.toks
    · split
      · rename_i h0
        have := str_nil (by simpa using h0)
        subst this
        have e : x ++ (⟨#[]⟩ : Str) = x := by
          cases x with | mk a =>
          show (⟨a ++ #[]⟩ : Str) = ⟨a⟩
          simp
        rw [e] at hR
        exact hR (fun _ => f 0) s.toks
      · exact ⟨h, hR (fun _ => s.toks) _⟩)
noncomputable def nlS (k : Nat) : Str := ⟨(List.replicate k 10).toArray⟩
noncomputable def cMulN (k : Nat) : Cn := cVal (fun f => bcall "str.__mul__" [.str (Z "\n") (f 0), .int k (f 1)]) fun z => .str (nlS k) (z 0)
noncomputable def cNeI (x y : Int) (v : Bool) : Cn := cVal (fun f => bcall "int.__ne__" [.int x (f 0), .int y (f 1)]) fun _ => .bool v
theorem n_neI (w : World) (b : Bool) (x y : Int) (v : Bool) (h : (x != y) = v) : Nd w b (cNeI x y v) := fun {ix} I =>
  n_val I fun f A s R hR => code_slot PySem.F.slot_int_ne (typeIs_int s x (f 0)) PySem.F.entry_int_ne (PySem.F.args_int_ne_2 _ _) (gives_int_ne x y (f 0) (f 1)) (by
    show R (.ok (.ret (.bool (x != y)))) s
    rw [h]; exact hR (fun _ => 0) s.toks)
noncomputable def cLInit (S it : Addr) (vs : List Value) (n : Nat) : Cn := { co := fun _ => bcall "list.__init__" [.ref S, .ref it], sl := [⟨S, listN [] 0, true⟩, ⟨it, listN vs n, false⟩], res := fun _ => okV .none, upi := [0], upo := fun y _ => listN vs (y 0), pu := true, D := 0, U := 0 }
theorem n_LInit (w : World) (b : Bool) (S it : Addr) (vs : List Value) (n : Nat) (hsz : vs.length ≤ sizeLine) : Nd w b (cLInit S it vs n) := fun {ix} I =>
  node_of (C := cLInit S it vs n) ⟨by show [0].Nodup; simp, fun j hj => by have : j ∈ [0] := hj; simp at this; subst this; exact Nat.zero_lt_succ _⟩ I fun f A h g d tk os R _ _ _ _ own nd hR => by
    have hS := own _ (.head _)
    have hi := own _ (.tail _ (.head _))
    have hne : it ≠ S := fun e => by
      have := (List.nodup_cons.mp nd).1
      exact this (e ▸ .head _)
    refine codeAny_call_builtin PySem.F.slot_list_init.plain PySem.F.entry_list_init (PySem.F.slot_list_init.check _ _ _ _ _ _ _ _ (listN_isList hS).typeIs (PySem.F.args_list_init_2 _ _) (wpAny_list_init_seq S it (T := "list") (.inl rfl) hne hS hi rfl rfl ?_ (by simpa using hsz)))
    have hS2 := Heap.get?_update_self (Obj.mapSeq (fun _ => (#[] : Array Value))) hS rfl
    have hS3 := Heap.get?_update_self (Obj.mapSeq (· ++ vs.toArray)) hS2 rfl
    obtain ⟨c, hc⟩ : ∃ c, Obj.mapSeq (· ++ vs.toArray) (Obj.mapSeq (fun _ => (#[] : Array Value)) (listN [] 0)) = listN vs c := ⟨_, by
      show (⟨_, _, .seq (#[] ++ vs.toArray) _, _⟩ : Obj) = ⟨_, _, .seq vs.toArray _, _⟩
      rw [Array.empty_append]⟩
    refine hR (0, tk, fun _ => c) _ ⟨fun b o e hb => ?_, ?_, ?_, fun p hp o ho => ?_, fun p hp => (nomatch hp), .nil, fun F hF => (nomatch hF)⟩
    · have hb' : b ≠ S := hb (natAt ix 0, S, fun _ => listN vs c) (.head _)
      rw [Heap.get?_update_other _ _ (Ne.symm hb'), Heap.get?_update_other _ _ (Ne.symm hb')]
      exact e
    · show (Heap.update _ _ _).objs.size = h.objs.size
      rw [Heap.size_after_update, Heap.size_after_update]
    · show h.objs.size ≤ (Heap.update _ _ _).objs.size
      rw [Heap.size_after_update, Heap.size_after_update]; exact Nat.le_refl _
    · rcases List.mem_cons.mp (show p ∈ [(natAt ix 0, S, fun _ => listN vs c)] from hp) with rfl | hp
      · rw [← hc]; exact hS3
      · cases hp
theorem n_mulN (w : World) (b : Bool) (k : Nat) (h : k < 4) : Nd w b (cMulN k) := fun {ix} I =>
  n_val I fun f A s R hR => by
    have : k = 0 ∨ k = 1 ∨ k = 2 ∨ k = 3 := by omega
    rcases this with rfl | rfl | rfl | rfl
    · have g := gives_str_mul (Z "\n") ((0 : Nat) : Int) (f 0) (f 1) (by decide) (fun h => absurd (by decide) h) (fun h => absurd (by decide) h)
      refine code_slot PySem.F.slot_str_mul (typeIs_str s _ (f 0)) PySem.F.entry_str_mul (PySem.F.args_str_mul_2 _ _) g ⟨by show 0 ≤ sizeLine; exact Nat.zero_le _, hR (fun _ => s.toks) _⟩
    · have g := gives_str_mul (Z "\n") ((1 : Nat) : Int) (f 0) (f 1) (by decide) (fun _ h => (nomatch h)) (fun _ h => (nomatch h))
      refine code_slot PySem.F.slot_str_mul (typeIs_str s _ (f 0)) PySem.F.entry_str_mul (PySem.F.args_str_mul_2 _ _) g ?_
      have e : (nlS 1) = Z "\n" := by rfl'
      rw [e] at hR
      exact hR (fun _ => f 0) s.toks
    · have g := gives_str_mul (Z "\n") ((2 : Nat) : Int) (f 0) (f 1) (by decide) (fun _ _ => by decide +kernel) (fun _ _ => by rfl')
      refine code_slot PySem.F.slot_str_mul (typeIs_str s _ (f 0)) PySem.F.entry_str_mul (PySem.F.args_str_mul_2 _ _) g ?_
      have e : (nlS 2) = ⟨(List.replicate ((2 : Nat) : Int).toNat (Z "\n").cps).foldl (· ++ ·) #[]⟩ := by rfl'
      rw [e] at hR
      exact ⟨by show ((2 : Nat)) ≤ sizeLine; decide +kernel, hR (fun _ => s.toks) _⟩
    · have g := gives_str_mul (Z "\n") ((3 : Nat) : Int) (f 0) (f 1) (by decide) (fun _ _ => by decide +kernel) (fun _ _ => by rfl')
      refine code_slot PySem.F.slot_str_mul (typeIs_str s _ (f 0)) PySem.F.entry_str_mul (PySem.F.args_str_mul_2 _ _) g ?_
      have e : (nlS 3) = ⟨(List.replicate ((3 : Nat) : Int).toNat (Z "\n").cps).foldl (· ++ ·) #[]⟩ := by rfl'
      rw [e] at hR
      exact ⟨by show ((3 : Nat)) ≤ sizeLine; decide +kernel, hR (fun _ => s.toks) _⟩
noncomputable def cSumV (l : Addr) (vs : List Value) (n : Nat) (V : Int) : Cn := { co := fun _ => bcall "sum" [.ref l], sl := [⟨l, listN vs n, false⟩], res := fun y => okV (.int V (y 0)), zq := some l, D := 0, U := 0 }
theorem n_sumV (w : World) (b : Bool) (l : Addr) (xs : List (Int × Nat)) (vs : List Value) (n : Nat) (V : Int) (hv : vs = intL xs) (hV : preSum (numAt xs.toArray) xs.length = V) : Nd w b (cSumV l vs n V) := by
  subst hv; subst hV; exact n_sum w b l xs n
noncomputable def cMulI (x y : Int) : Cn := cVal (fun f => bcall "int.__mul__" [.int x (f 0), .int y (f 1)]) fun z => .int (x * y) (z 0)
theorem n_mulI (w : World) (b : Bool) (x y : Int) (h : IntMulOk x y) : Nd w b (cMulI x y) := fun {ix} I =>
  n_val I fun f A s R hR => code_slot PySem.F.slot_int_mul (typeIs_int s x (f 0)) PySem.F.entry_int_mul (PySem.F.args_int_mul_2 _ _) (gives_int_mul x y (f 0) (f 1) h) (hR (fun _ => s.toks) _)
noncomputable def cGetLI (l : Addr) (vs : List Value) (n : Nat) (k : Int) (x : Value) : Cn := { co := fun f => bcall "list.__getitem__" [.ref l, .int k (f 1)], sl := [⟨l, listN vs n, false⟩], res := fun _ => okV x, pu := true, D := 0, U := 0 }
theorem n_getLI (w : World) (b : Bool) (l : Addr) (vs : List Value) (n : Nat) (k : Int) (x : Value) (h0 : 0 ≤ k) (hk : k < 2 ^ 63) (hx : vs.toArray[k.toNat]? = some x) : Nd w b (cGetLI l vs n k x) := fun {ix} I =>
  node_pure ⟨.nil, fun _ h => nomatch h⟩ I rfl rfl (fun _ => rfl) (fun _ => rfl) fun f A s R _ own hR => code_getL (own _ (.head _)) h0 hk hx (hR (fun _ => 0) s.toks)
noncomputable def penO (s2 : Addr) (c sm : Int) (tc ts pn : Nat) : Obj := listN [.ref s2, .int c tc, .int sm ts] pn
noncomputable def cPick (pen s2 : Addr) (vs : List Value) (n2 pn : Nat) (c sm : Int) (tc ts : Nat) (many r : Int) : Cn :=
  { co := fun f => fcall 887 [.ref pen, .int many (f 1)], sl := [⟨pen, penO s2 c sm tc ts pn, true⟩, ⟨s2, listN vs n2, false⟩], res := fun y => okV (.int r (y 0)), upi := [0], upo := fun y _ => penO s2 (c + 1) sm (y 1) ts pn, D := 12, U := 90 }
theorem n_pick_in (w b) (pen s2 : Addr) (vs : List Value) (n2 pn : Nat) (c sm : Int) (tc ts : Nat) (mm : Nat) (v : Int) (tv : Nat) (hl : vs.length < 2 ^ 63) (h1 : decide (c + 1 ≤ (vs.length : Int)) = true) (h2 : 0 ≤ c + 1 - 1) (h3 : c + 1 - 1 < 2 ^ 63) (h4 : vs.toArray[(c + 1 - 1).toNat]? = some (.int v tv)) : Nd w b (cPick pen s2 vs n2 pn c sm tc ts ((Nat.succ mm : Nat) : Int) (Int.fmod v ((Nat.succ mm : Nat) : Int))) :=
  nr [1] [] 127 (Kk [Kmt,Kpn,Kaf,Kan,Kij,129,Kpn,Kbn,Kpn,Kiv,Koc,129,Kan,16386,Kbg,Kal,129,Kaf]) (fun f B T => vc (cLenL s2 vs n2) [2] (n_lenL w b _ _ _ hl) rfl fun x1 => vc (cLe (c + 1) vs.length true) [] (n_le w b _ _ _ h1) rfl fun x2 => vc (cGetLI s2 vs n2 (c + 1 - 1) (.int v tv)) [2] (n_getLI w b _ _ _ _ _ h2 h3 h4) rfl fun x3 => ve) fun f B T x1 x2 x3 => ⟨natAt [x3.2.1, (T + 4)], by cases b <;> rfl'⟩
theorem n_pick_out (w b) (pen s2 : Addr) (vs : List Value) (n2 pn : Nat) (c sm : Int) (tc ts : Nat) (mm : Nat) (v : Int) (tv : Nat) (hl : vs.length < 2 ^ 63) (h1 : decide (c + 1 ≤ (vs.length : Int)) = false) (h2 : IntMulOk 2 (c + 1)) (h3 : IntMulOk (c + 1) (c + 1)) : Nd w b (cPick pen s2 vs n2 pn c sm tc ts ((Nat.succ mm : Nat) : Int) (Int.fmod (2 * (c + 1) + Int.fdiv ((c + 1) * (c + 1)) 6 + sm) ((Nat.succ mm : Nat) : Int))) :=
  nr [1] [] 159 (Kk [Kmt,Kpn,Kaf,Kan,Kij,129,Kpn,Kbn,Kpn,Kiv,Koc,Kac,Kpn,129,Kpn,129,Kbn,Kpn,Kaf]) (fun f B T => vc (cLenL s2 vs n2) [2] (n_lenL w b _ _ _ hl) rfl fun x1 => vc (cLe (c + 1) vs.length false) [] (n_le w b _ _ _ h1) rfl fun x2 => vc (cMulI 2 (c + 1)) [] (n_mulI w b _ _ h2) rfl fun x3 => vc (cMulI (c + 1) (c + 1)) [] (n_mulI w b _ _ h3) rfl fun x4 => ve) fun f B T x1 x2 x3 x4 => ⟨natAt [(x4.2.1 + 5), (T + 4)], by cases b <;> rfl'⟩
noncomputable def pickV (xs : List (Int × Nat)) (sm : Int) (c : Nat) (many : Nat) : Int := match xs[c]? with
  | some p => Int.fmod p.1 many
  | none => Int.fmod (2 * ((c : Int) + 1) + Int.fdiv (((c : Int) + 1) * ((c : Int) + 1)) 6 + sm) many
theorem bits40 : ∀ c : Nat, c < 40 → Builtin.Int.intBits ((c : Int) + 1) ≤ 64 := by decide +kernel
theorem n_pick (w : World) (b : Bool) (pen s2 : Addr) (xs : List (Int × Nat)) (vs : List Value) (n2 pn c : Nat) (sm : Int) (tc ts mm : Nat) (r : Int) (hv : vs = intL xs) (hl : xs.length < 100) (hc : c < 40) (hr : pickV xs sm c (Nat.succ mm) = r) :
    Nd w b (cPick pen s2 vs n2 pn c sm tc ts ((Nat.succ mm : Nat) : Int) r) := by
  subst hv
  have hlen : (intL xs).length = xs.length := by simp [intL]
  cases q : xs[c]? with
  | some p =>
    obtain ⟨v, t⟩ := p
    have hlt : c < xs.length := (List.getElem?_eq_some_iff.mp q).1
    have e : pickV xs sm c (Nat.succ mm) = Int.fmod v (Nat.succ mm : Nat) := by unfold pickV; rw [q]
    rw [← hr, e]
    exact fun {ix} I => n_pick_in w b pen s2 _ n2 pn c sm tc ts mm v t (by rw [hlen]; omega) (by rw [hlen]; simp; omega) (by omega) (by omega) (by
      have e2 : ((c : Int) + 1 - 1).toNat = c := by omega
      rw [e2, List.getElem?_toArray]
      simp [intL, q]) I
  | none =>
    have hge : xs.length ≤ c := List.getElem?_eq_none_iff.mp q
    have e : pickV xs sm c (Nat.succ mm) = Int.fmod (2 * ((c : Int) + 1) + Int.fdiv (((c : Int) + 1) * ((c : Int) + 1)) 6 + sm) (Nat.succ mm : Nat) := by unfold pickV; rw [q]
    rw [← hr, e]
    exact fun {ix} I => n_pick_out w b pen s2 _ n2 pn c sm tc ts mm 0 0 (by rw [hlen]; omega) (by rw [hlen]; simp; omega) (.of_left (by decide +kernel)) (.of_left (bits40 c hc)) I
theorem pickV_rng (xs : List (Int × Nat)) (sm : Int) (c : Nat) {many : Nat} (h : 0 < many) : 0 ≤ pickV xs sm c many ∧ pickV xs sm c many < many := by
  have g : ∀ a : Int, 0 ≤ Int.fmod a many ∧ Int.fmod a many < many := fun a => ⟨Int.fmod_nonneg_of_pos _ (by omega), Int.fmod_lt_of_pos _ (by omega)⟩
  unfold pickV
  split
  · exact g _
  · exact g _
noncomputable def valsFrom (l : List Str) : Nat → List Value := @List.rec Str (fun _ => Nat → List Value) (fun _ => []) (fun s _ ih t => .str s t :: ih (Nat.succ t)) l
noncomputable def signVs (t : Nat) : List Value := valsFrom signsL t
theorem valsFrom_get : ∀ {l : List Str} {t k : Nat} {s : Str}, l[k]? = some s → (valsFrom l t)[k]? = some (.str s (t + k))
  | x :: l, t, 0, s, h => by
    have : x = s := by simpa using h
    subst this; rfl
  | x :: l, t, k + 1, s, h => by
    have h' : l[k]? = some s := by simpa using h
    have := valsFrom_get (t := t + 1) h'
    show (valsFrom l (t + 1))[k]? = _
    rw [this]
    have e : t + 1 + k = t + (k + 1) := by omega
    exact congrArg (fun i => some (Value.str s i)) e
noncomputable def frO (o : Obj) : Obj := { o with cls := .type "frame" }
theorem Node.df {w : World} {b : Bool} {D U D' U' Dv Uv : Nat} {X : Type} {s : X → CSpec} (n : Node (par w b D U) Dv Uv X s) : Node (parF w b D' U') Dv Uv X s := ⟨n.ne, n.same⟩
noncomputable def cellO (v : Value) : Obj := ⟨.type "cell", none, .cell (some v), #[]⟩
structure Q2 where
  pen : Addr
  s2 : Addr
  lk : Addr
  ta : Nat → Addr
  kk : Nat → Nat
  n2 : Nat
  tc : Nat
  ts : Nat
  ln : Nat
  tf : Nat → Nat
  tg : Nat → Nat
noncomputable def refsF (ta : Nat → Addr) (l : List (Nat × Str)) : Nat → List Value := @List.rec (Nat × Str) (fun _ => Nat → List Value) (fun _ => []) (fun _ _ ih i => .ref (ta i) :: ih (Nat.succ i)) l
noncomputable def tupsF (ta tf tg : Nat → Nat) (l : List (Nat × Str)) : Nat → List (Addr × Obj) := @List.rec (Nat × Str) (fun _ => Nat → List (Addr × Obj)) (fun _ => []) (fun x _ ih i => (ta i, tupO [.int (x.1 : Nat) (tf i), .str x.2 (tg i)]) :: ih (Nat.succ i)) l
noncomputable def form2 (P : Params) (scr L : Addr) (vs : List Value) (c sm : Int) (l : List (Nat × Str)) (q : Q2) : List (Addr × Obj) :=
  (L, frO (dF P [("script", fun _ => .ref scr), ("links", fun _ => .ref q.lk)] q.kk (fun _ => 0))) :: (Nat.succ L, cellO (.ref q.pen)) :: (q.pen, penO q.s2 c sm q.tc q.ts 0) :: (q.s2, listN (vs.take 30) q.n2) :: (q.lk, listN (refsF q.ta l 0) q.ln) :: tupsF q.ta q.tf q.tg l 0
noncomputable def vf {w : World} {b : Bool} {D U : Nat} (C : Cn) (ix : List Nat) (h : Nd w b C) (e : chkI C ix = true) (r : XT → VT (parF w b D U) 0 0) : VT (parF w b D U) 0 0 := ⟨.cons XT (C.spec ix) fun x => (r x).T, Node.df (h (ixOk e)), fun x => (r x).v⟩
noncomputable def vx {w : World} {b : Bool} {D U : Nat} (s : XL → CSpec) (h : Node (par w b 0 0) 0 0 XL s) (r : XL → VT (parF w b D U) 0 0) : VT (parF w b D U) 0 0 := ⟨.cons XL s fun x => (r x).T, Node.df h, fun x => (r x).v⟩
noncomputable def PV (P : Par) (F : List CSpec → Prop) : Prop := ∃ T : Tele, ValidT P 0 0 T ∧ AllT T F
theorem pv {P : Par} (V : VT P 0 0) {F : List CSpec → Prop} (h : AllT V.T F) : PV P F := ⟨V.T, V.v, h⟩
theorem p_p0_1f (w : World) (b : Bool) (scr : Addr) (vs : List Value) (xs : List (Int × Nat)) (cnt : Nat) (V : Int) (m0 g0 : Nat) (s0 : Str) (hl : vs.length < 100) (hv : vs.take 30 = intL xs) (hx : xs.length < 100) (hV : preSum (numAt xs.toArray) xs.length = V) (hp0 : pickV xs (Int.fmod V 997) 0 3 = 0) (hp1 : pickV xs (Int.fmod V 997) 1 3 = m0) (hp2 : pickV xs (Int.fmod V 997) 2 12 = g0) (hs0 : g0 < 1000) (hg0 : signsL[g0]? = some s0) (B T : Nat) : PV (parF (wI w false) b 690 9000) fun l => ∃ q : Q2, Same (cutAT (parF (wI w false) b 690 9000) scr 2 251 (Kk [Kor,Kkc,Kkj,129,Kfh,Kps,Kef,Kac,Kll,Kag,Koa,Kdb,Koq,Kfv,Kpf,Kal,Kjx,Kac,Kba,Kaf,Kjo,Kmh,Khj,Kox,Kgf,Kaf,Keq,Khv,255]) l ⟨[⟨scr, listN vs cnt, false⟩], B, T, []⟩ 1 [] [16, 15, 9, 12, 6, 2] ([]) (form2 (wP w false) scr B vs 3 (Int.fmod V 997) [(m0, s0)] q) ([])) := pv (vx (sliceSpec scr (B + 2) vs cnt (T + 1) 30 [3, 0]) (n_slice (wI w false) b _ _ _ _ _ _ (by rw [PySem.sizeLine_eq]; omega) _ _ (by decide)) fun x1 => vf (cLInit (x1.1 + 1) x1.1 (vs.take 30) 0) [0, 1] (n_LInit (wI w false) b _ _ _ _ (by rw [PySem.sizeLine_eq, List.length_take]; omega)) rfl fun x2 => vx (sliceSpec scr (x1.1 + 2) vs cnt (x2.2.1 + 1) 30 [6, 0]) (n_slice (wI w false) b _ _ _ _ _ _ (by rw [PySem.sizeLine_eq]; omega) _ _ (by decide)) fun x3 => vf (cSumV x3.1 (vs.take 30) 0 V) [0] (n_sumV (wI w false) b _ xs _ _ _ hv hV) rfl fun x4 => vf (cPick x4.1 (x1.1 + 1) (vs.take 30) (x2.2.2 0) 0 ((0 : Nat) : Int) (Int.fmod V 997) x2.2.1 (x4.2.1 + 1) ((Nat.succ 2 : Nat) : Int) 0) [0, 3] (n_pick (wI w false) b _ _ xs _ _ _ _ _ _ _ _ _ hv (by omega) (by omega) hp0) rfl fun x5 => vf (cPick x4.1 (x1.1 + 1) (vs.take 30) (x2.2.2 0) 0 ((1 : Nat) : Int) (Int.fmod V 997) (x5.2.2 1) (x4.2.1 + 1) ((Nat.succ 2 : Nat) : Int) ((m0 : Nat) : Int)) [4, 7] (n_pick (wI w false) b _ _ xs _ _ _ _ _ _ _ _ _ hv (by omega) (by omega) hp1) rfl fun x6 => vf (cPick x4.1 (x1.1 + 1) (vs.take 30) (x2.2.2 0) 0 ((2 : Nat) : Int) (Int.fmod V 997) (x6.2.2 1) (x4.2.1 + 1) ((Nat.succ 11 : Nat) : Int) ((g0 : Nat) : Int)) [6, 9] (n_pick (wI w false) b _ _ xs _ _ _ _ _ _ _ _ _ hv (by omega) (by omega) hp2) rfl fun x7 => vf (cGetL (x6.1 + 1) (signVs x6.2.1) 0 g0 (.str s0 (x6.2.1 + g0))) [0] (n_getL (wI w false) b _ _ _ _ _ (by omega) (valsFrom_get hg0)) rfl fun x8 => ve) fun x1 x2 x3 x4 x5 x6 x7 x8 => ⟨⟨x4.1, (x1.1 + 1), (x5.1 + 2), natAt [x7.1], natAt [T, x8.2.1], (x2.2.2 0), (x7.2.2 1), (x4.2.1 + 1), 1, natAt [(x6.2.2 0)], natAt [x6.2.1 + g0]⟩, by cases b <;> rfl'⟩
theorem p_p0_1t (w : World) (b : Bool) (scr : Addr) (vs : List Value) (xs : List (Int × Nat)) (cnt : Nat) (V : Int) (m0 g0 : Nat) (s0 : Str) (hl : vs.length < 100) (hv : vs.take 30 = intL xs) (hx : xs.length < 100) (hV : preSum (numAt xs.toArray) xs.length = V) (hp0 : pickV xs (Int.fmod V 997) 0 3 = 0) (hp1 : pickV xs (Int.fmod V 997) 1 3 = m0) (hp2 : pickV xs (Int.fmod V 997) 2 12 = g0) (hs0 : g0 < 1000) (hg0 : signsL[g0]? = some s0) (B T : Nat) : PV (parF (wI w true) b 690 9000) fun l => ∃ q : Q2, Same (cutAT (parF (wI w true) b 690 9000) scr 2 241 (Kk [Kor,Kkc,Kkj,129,Kfh,Kps,Kef,Kac,Kll,Kag,Koa,Kdb,Koq,Kfv,Kns,Kal,Kjx,Kac,Kba,Kaf,Kjo,Kmh,Khj,Kox,Kgf,Kaf,Keq,Khv,255]) l ⟨[⟨scr, listN vs cnt, false⟩], B, T, []⟩ 1 [] [16, 15, 9, 12, 6, 2] ([]) (form2 (wP w true) scr B vs 3 (Int.fmod V 997) [(m0, s0)] q) ([])) := pv (vx (sliceSpec scr (B + 2) vs cnt (T + 1) 30 [3, 0]) (n_slice (wI w true) b _ _ _ _ _ _ (by rw [PySem.sizeLine_eq]; omega) _ _ (by decide)) fun x1 => vf (cLInit (x1.1 + 1) x1.1 (vs.take 30) 0) [0, 1] (n_LInit (wI w true) b _ _ _ _ (by rw [PySem.sizeLine_eq, List.length_take]; omega)) rfl fun x2 => vx (sliceSpec scr (x1.1 + 2) vs cnt (x2.2.1 + 1) 30 [6, 0]) (n_slice (wI w true) b _ _ _ _ _ _ (by rw [PySem.sizeLine_eq]; omega) _ _ (by decide)) fun x3 => vf (cSumV x3.1 (vs.take 30) 0 V) [0] (n_sumV (wI w true) b _ xs _ _ _ hv hV) rfl fun x4 => vf (cPick x4.1 (x1.1 + 1) (vs.take 30) (x2.2.2 0) 0 ((0 : Nat) : Int) (Int.fmod V 997) x2.2.1 (x4.2.1 + 1) ((Nat.succ 2 : Nat) : Int) 0) [0, 3] (n_pick (wI w true) b _ _ xs _ _ _ _ _ _ _ _ _ hv (by omega) (by omega) hp0) rfl fun x5 => vf (cPick x4.1 (x1.1 + 1) (vs.take 30) (x2.2.2 0) 0 ((1 : Nat) : Int) (Int.fmod V 997) (x5.2.2 1) (x4.2.1 + 1) ((Nat.succ 2 : Nat) : Int) ((m0 : Nat) : Int)) [4, 7] (n_pick (wI w true) b _ _ xs _ _ _ _ _ _ _ _ _ hv (by omega) (by omega) hp1) rfl fun x6 => vf (cPick x4.1 (x1.1 + 1) (vs.take 30) (x2.2.2 0) 0 ((2 : Nat) : Int) (Int.fmod V 997) (x6.2.2 1) (x4.2.1 + 1) ((Nat.succ 11 : Nat) : Int) ((g0 : Nat) : Int)) [6, 9] (n_pick (wI w true) b _ _ xs _ _ _ _ _ _ _ _ _ hv (by omega) (by omega) hp2) rfl fun x7 => vf (cGetL (x6.1 + 1) (signVs x6.2.1) 0 g0 (.str s0 (x6.2.1 + g0))) [0] (n_getL (wI w true) b _ _ _ _ _ (by omega) (valsFrom_get hg0)) rfl fun x8 => ve) fun x1 x2 x3 x4 x5 x6 x7 x8 => ⟨⟨x4.1, (x1.1 + 1), (x5.1 + 2), natAt [x7.1], natAt [T, x8.2.1], (x2.2.2 0), (x7.2.2 1), (x4.2.1 + 1), 1, natAt [(x6.2.2 0)], natAt [x6.2.1 + g0]⟩, by cases b <;> rfl'⟩
theorem p_p0_2f (w : World) (b : Bool) (scr : Addr) (vs : List Value) (xs : List (Int × Nat)) (cnt : Nat) (V : Int) (m0 g0 m1 g1 : Nat) (s0 s1 : Str) (hl : vs.length < 100) (hv : vs.take 30 = intL xs) (hx : xs.length < 100) (hV : preSum (numAt xs.toArray) xs.length = V) (hp0 : pickV xs (Int.fmod V 997) 0 3 = 1) (hp1 : pickV xs (Int.fmod V 997) 1 3 = m0) (hp2 : pickV xs (Int.fmod V 997) 2 12 = g0) (hs0 : g0 < 1000) (hg0 : signsL[g0]? = some s0) (hp3 : pickV xs (Int.fmod V 997) 3 3 = m1) (hp4 : pickV xs (Int.fmod V 997) 4 12 = g1) (hs1 : g1 < 1000) (hg1 : signsL[g1]? = some s1) (B T : Nat) : PV (parF (wI w false) b 690 9000) fun l => ∃ q : Q2, Same (cutAT (parF (wI w false) b 690 9000) scr 2 335 (Kk [Kor,Kkc,Kkj,129,Kfh,Kps,Kef,Kac,Kll,Kag,Koa,Kdb,Koq,Kfv,Kpf,Kal,Kjx,Kac,Kba,Kaf,Kjo,Kmh,Khj,Kox,Kgf,Kgf,Kbp,142,Kaf,Kah,144,Kmh,Kly,Kmg,Kaf,Kjr,Kmo,255]) l ⟨[⟨scr, listN vs cnt, false⟩], B, T, []⟩ 1 [] [19, 18, 12, 15, 9, 5, 2] ([]) (form2 (wP w false) scr B vs 5 (Int.fmod V 997) [(m0, s0), (m1, s1)] q) ([])) := pv (vx (sliceSpec scr (B + 2) vs cnt (T + 1) 30 [3, 0]) (n_slice (wI w false) b _ _ _ _ _ _ (by rw [PySem.sizeLine_eq]; omega) _ _ (by decide)) fun x1 => vf (cLInit (x1.1 + 1) x1.1 (vs.take 30) 0) [0, 1] (n_LInit (wI w false) b _ _ _ _ (by rw [PySem.sizeLine_eq, List.length_take]; omega)) rfl fun x2 => vx (sliceSpec scr (x1.1 + 2) vs cnt (x2.2.1 + 1) 30 [6, 0]) (n_slice (wI w false) b _ _ _ _ _ _ (by rw [PySem.sizeLine_eq]; omega) _ _ (by decide)) fun x3 => vf (cSumV x3.1 (vs.take 30) 0 V) [0] (n_sumV (wI w false) b _ xs _ _ _ hv hV) rfl fun x4 => vf (cPick x4.1 (x1.1 + 1) (vs.take 30) (x2.2.2 0) 0 ((0 : Nat) : Int) (Int.fmod V 997) x2.2.1 (x4.2.1 + 1) ((Nat.succ 2 : Nat) : Int) 1) [0, 3] (n_pick (wI w false) b _ _ xs _ _ _ _ _ _ _ _ _ hv (by omega) (by omega) hp0) rfl fun x5 => vf (cPick x4.1 (x1.1 + 1) (vs.take 30) (x2.2.2 0) 0 ((1 : Nat) : Int) (Int.fmod V 997) (x5.2.2 1) (x4.2.1 + 1) ((Nat.succ 2 : Nat) : Int) ((m0 : Nat) : Int)) [4, 7] (n_pick (wI w false) b _ _ xs _ _ _ _ _ _ _ _ _ hv (by omega) (by omega) hp1) rfl fun x6 => vf (cPick x4.1 (x1.1 + 1) (vs.take 30) (x2.2.2 0) 0 ((2 : Nat) : Int) (Int.fmod V 997) (x6.2.2 1) (x4.2.1 + 1) ((Nat.succ 11 : Nat) : Int) ((g0 : Nat) : Int)) [6, 9] (n_pick (wI w false) b _ _ xs _ _ _ _ _ _ _ _ _ hv (by omega) (by omega) hp2) rfl fun x7 => vf (cGetL (x6.1 + 1) (signVs x6.2.1) 0 g0 (.str s0 (x6.2.1 + g0))) [0] (n_getL (wI w false) b _ _ _ _ _ (by omega) (valsFrom_get hg0)) rfl fun x8 => vf (cPick x4.1 (x1.1 + 1) (vs.take 30) (x2.2.2 0) 0 ((3 : Nat) : Int) (Int.fmod V 997) (x7.2.2 1) (x4.2.1 + 1) ((Nat.succ 2 : Nat) : Int) ((m1 : Nat) : Int)) [7, 10] (n_pick (wI w false) b _ _ xs _ _ _ _ _ _ _ _ _ hv (by omega) (by omega) hp3) rfl fun x9 => vf (cPick x4.1 (x1.1 + 1) (vs.take 30) (x2.2.2 0) 0 ((4 : Nat) : Int) (Int.fmod V 997) (x9.2.2 1) (x4.2.1 + 1) ((Nat.succ 11 : Nat) : Int) ((g1 : Nat) : Int)) [9, 12] (n_pick (wI w false) b _ _ xs _ _ _ _ _ _ _ _ _ hv (by omega) (by omega) hp4) rfl fun x10 => vf (cGetL (x9.1 + 1) (signVs x9.2.1) 0 g1 (.str s1 (x9.2.1 + g1))) [0] (n_getL (wI w false) b _ _ _ _ _ (by omega) (valsFrom_get hg1)) rfl fun x11 => ve) fun x1 x2 x3 x4 x5 x6 x7 x8 x9 x10 x11 => ⟨⟨x4.1, (x1.1 + 1), (x5.1 + 2), natAt [x7.1, x10.1], natAt [T, x11.2.1], (x2.2.2 0), (x10.2.2 1), (x4.2.1 + 1), 2, natAt [(x6.2.2 0), (x9.2.2 0)], natAt [x6.2.1 + g0, x9.2.1 + g1]⟩, by cases b <;> rfl'⟩
theorem p_p0_2t (w : World) (b : Bool) (scr : Addr) (vs : List Value) (xs : List (Int × Nat)) (cnt : Nat) (V : Int) (m0 g0 m1 g1 : Nat) (s0 s1 : Str) (hl : vs.length < 100) (hv : vs.take 30 = intL xs) (hx : xs.length < 100) (hV : preSum (numAt xs.toArray) xs.length = V) (hp0 : pickV xs (Int.fmod V 997) 0 3 = 1) (hp1 : pickV xs (Int.fmod V 997) 1 3 = m0) (hp2 : pickV xs (Int.fmod V 997) 2 12 = g0) (hs0 : g0 < 1000) (hg0 : signsL[g0]? = some s0) (hp3 : pickV xs (Int.fmod V 997) 3 3 = m1) (hp4 : pickV xs (Int.fmod V 997) 4 12 = g1) (hs1 : g1 < 1000) (hg1 : signsL[g1]? = some s1) (B T : Nat) : PV (parF (wI w true) b 690 9000) fun l => ∃ q : Q2, Same (cutAT (parF (wI w true) b 690 9000) scr 2 325 (Kk [Kor,Kkc,Kkj,129,Kfh,Kps,Kef,Kac,Kll,Kag,Koa,Kdb,Koq,Kfv,Kns,Kal,Kjx,Kac,Kba,Kaf,Kjo,Kmh,Khj,Kox,Kgf,Kgf,Kbp,142,Kaf,Kah,144,Kmh,Kly,Kmg,Kaf,Kjr,Kmo,255]) l ⟨[⟨scr, listN vs cnt, false⟩], B, T, []⟩ 1 [] [19, 18, 12, 15, 9, 5, 2] ([]) (form2 (wP w true) scr B vs 5 (Int.fmod V 997) [(m0, s0), (m1, s1)] q) ([])) := pv (vx (sliceSpec scr (B + 2) vs cnt (T + 1) 30 [3, 0]) (n_slice (wI w true) b _ _ _ _ _ _ (by rw [PySem.sizeLine_eq]; omega) _ _ (by decide)) fun x1 => vf (cLInit (x1.1 + 1) x1.1 (vs.take 30) 0) [0, 1] (n_LInit (wI w true) b _ _ _ _ (by rw [PySem.sizeLine_eq, List.length_take]; omega)) rfl fun x2 => vx (sliceSpec scr (x1.1 + 2) vs cnt (x2.2.1 + 1) 30 [6, 0]) (n_slice (wI w true) b _ _ _ _ _ _ (by rw [PySem.sizeLine_eq]; omega) _ _ (by decide)) fun x3 => vf (cSumV x3.1 (vs.take 30) 0 V) [0] (n_sumV (wI w true) b _ xs _ _ _ hv hV) rfl fun x4 => vf (cPick x4.1 (x1.1 + 1) (vs.take 30) (x2.2.2 0) 0 ((0 : Nat) : Int) (Int.fmod V 997) x2.2.1 (x4.2.1 + 1) ((Nat.succ 2 : Nat) : Int) 1) [0, 3] (n_pick (wI w true) b _ _ xs _ _ _ _ _ _ _ _ _ hv (by omega) (by omega) hp0) rfl fun x5 => vf (cPick x4.1 (x1.1 + 1) (vs.take 30) (x2.2.2 0) 0 ((1 : Nat) : Int) (Int.fmod V 997) (x5.2.2 1) (x4.2.1 + 1) ((Nat.succ 2 : Nat) : Int) ((m0 : Nat) : Int)) [4, 7] (n_pick (wI w true) b _ _ xs _ _ _ _ _ _ _ _ _ hv (by omega) (by omega) hp1) rfl fun x6 => vf (cPick x4.1 (x1.1 + 1) (vs.take 30) (x2.2.2 0) 0 ((2 : Nat) : Int) (Int.fmod V 997) (x6.2.2 1) (x4.2.1 + 1) ((Nat.succ 11 : Nat) : Int) ((g0 : Nat) : Int)) [6, 9] (n_pick (wI w true) b _ _ xs _ _ _ _ _ _ _ _ _ hv (by omega) (by omega) hp2) rfl fun x7 => vf (cGetL (x6.1 + 1) (signVs x6.2.1) 0 g0 (.str s0 (x6.2.1 + g0))) [0] (n_getL (wI w true) b _ _ _ _ _ (by omega) (valsFrom_get hg0)) rfl fun x8 => vf (cPick x4.1 (x1.1 + 1) (vs.take 30) (x2.2.2 0) 0 ((3 : Nat) : Int) (Int.fmod V 997) (x7.2.2 1) (x4.2.1 + 1) ((Nat.succ 2 : Nat) : Int) ((m1 : Nat) : Int)) [7, 10] (n_pick (wI w true) b _ _ xs _ _ _ _ _ _ _ _ _ hv (by omega) (by omega) hp3) rfl fun x9 => vf (cPick x4.1 (x1.1 + 1) (vs.take 30) (x2.2.2 0) 0 ((4 : Nat) : Int) (Int.fmod V 997) (x9.2.2 1) (x4.2.1 + 1) ((Nat.succ 11 : Nat) : Int) ((g1 : Nat) : Int)) [9, 12] (n_pick (wI w true) b _ _ xs _ _ _ _ _ _ _ _ _ hv (by omega) (by omega) hp4) rfl fun x10 => vf (cGetL (x9.1 + 1) (signVs x9.2.1) 0 g1 (.str s1 (x9.2.1 + g1))) [0] (n_getL (wI w true) b _ _ _ _ _ (by omega) (valsFrom_get hg1)) rfl fun x11 => ve) fun x1 x2 x3 x4 x5 x6 x7 x8 x9 x10 x11 => ⟨⟨x4.1, (x1.1 + 1), (x5.1 + 2), natAt [x7.1, x10.1], natAt [T, x11.2.1], (x2.2.2 0), (x10.2.2 1), (x4.2.1 + 1), 2, natAt [(x6.2.2 0), (x9.2.2 0)], natAt [x6.2.1 + g0, x9.2.1 + g1]⟩, by cases b <;> rfl'⟩
theorem p_p0_3f (w : World) (b : Bool) (scr : Addr) (vs : List Value) (xs : List (Int × Nat)) (cnt : Nat) (V : Int) (m0 g0 m1 g1 m2 g2 : Nat) (s0 s1 s2 : Str) (hl : vs.length < 100) (hv : vs.take 30 = intL xs) (hx : xs.length < 100) (hV : preSum (numAt xs.toArray) xs.length = V) (hp0 : pickV xs (Int.fmod V 997) 0 3 = 2) (hp1 : pickV xs (Int.fmod V 997) 1 3 = m0) (hp2 : pickV xs (Int.fmod V 997) 2 12 = g0) (hs0 : g0 < 1000) (hg0 : signsL[g0]? = some s0) (hp3 : pickV xs (Int.fmod V 997) 3 3 = m1) (hp4 : pickV xs (Int.fmod V 997) 4 12 = g1) (hs1 : g1 < 1000) (hg1 : signsL[g1]? = some s1) (hp5 : pickV xs (Int.fmod V 997) 5 3 = m2) (hp6 : pickV xs (Int.fmod V 997) 6 12 = g2) (hs2 : g2 < 1000) (hg2 : signsL[g2]? = some s2) (B T : Nat) : PV (parF (wI w false) b 690 9000) fun l => ∃ q : Q2, Same (cutAT (parF (wI w false) b 690 9000) scr 2 419 (Kk [Kor,Kkc,Kkj,129,Kfh,Kps,Kef,Kac,Kll,Kag,Koa,Kdb,Koq,Kfv,Kpf,Kal,Kjx,Kac,Kba,Kaf,Kjo,Kmh,Khj,Kox,Kgf,Kgf,Kbp,142,Kaf,Kah,144,Kmh,Kly,Kmg,Kax,Kax,Kbd,Kod,Kaf,Kah,147,Kmh,Kcv,Kcv,140,Knp,140,Kaf,19351,Kqr,255]) l ⟨[⟨scr, listN vs cnt, false⟩], B, T, []⟩ 1 [] [22, 21, 15, 18, 12, 8, 5, 2] ([]) (form2 (wP w false) scr B vs 7 (Int.fmod V 997) [(m0, s0), (m1, s1), (m2, s2)] q) ([])) := pv (vx (sliceSpec scr (B + 2) vs cnt (T + 1) 30 [3, 0]) (n_slice (wI w false) b _ _ _ _ _ _ (by rw [PySem.sizeLine_eq]; omega) _ _ (by decide)) fun x1 => vf (cLInit (x1.1 + 1) x1.1 (vs.take 30) 0) [0, 1] (n_LInit (wI w false) b _ _ _ _ (by rw [PySem.sizeLine_eq, List.length_take]; omega)) rfl fun x2 => vx (sliceSpec scr (x1.1 + 2) vs cnt (x2.2.1 + 1) 30 [6, 0]) (n_slice (wI w false) b _ _ _ _ _ _ (by rw [PySem.sizeLine_eq]; omega) _ _ (by decide)) fun x3 => vf (cSumV x3.1 (vs.take 30) 0 V) [0] (n_sumV (wI w false) b _ xs _ _ _ hv hV) rfl fun x4 => vf (cPick x4.1 (x1.1 + 1) (vs.take 30) (x2.2.2 0) 0 ((0 : Nat) : Int) (Int.fmod V 997) x2.2.1 (x4.2.1 + 1) ((Nat.succ 2 : Nat) : Int) 2) [0, 3] (n_pick (wI w false) b _ _ xs _ _ _ _ _ _ _ _ _ hv (by omega) (by omega) hp0) rfl fun x5 => vf (cPick x4.1 (x1.1 + 1) (vs.take 30) (x2.2.2 0) 0 ((1 : Nat) : Int) (Int.fmod V 997) (x5.2.2 1) (x4.2.1 + 1) ((Nat.succ 2 : Nat) : Int) ((m0 : Nat) : Int)) [4, 7] (n_pick (wI w false) b _ _ xs _ _ _ _ _ _ _ _ _ hv (by omega) (by omega) hp1) rfl fun x6 => vf (cPick x4.1 (x1.1 + 1) (vs.take 30) (x2.2.2 0) 0 ((2 : Nat) : Int) (Int.fmod V 997) (x6.2.2 1) (x4.2.1 + 1) ((Nat.succ 11 : Nat) : Int) ((g0 : Nat) : Int)) [6, 9] (n_pick (wI w false) b _ _ xs _ _ _ _ _ _ _ _ _ hv (by omega) (by omega) hp2) rfl fun x7 => vf (cGetL (x6.1 + 1) (signVs x6.2.1) 0 g0 (.str s0 (x6.2.1 + g0))) [0] (n_getL (wI w false) b _ _ _ _ _ (by omega) (valsFrom_get hg0)) rfl fun x8 => vf (cPick x4.1 (x1.1 + 1) (vs.take 30) (x2.2.2 0) 0 ((3 : Nat) : Int) (Int.fmod V 997) (x7.2.2 1) (x4.2.1 + 1) ((Nat.succ 2 : Nat) : Int) ((m1 : Nat) : Int)) [7, 10] (n_pick (wI w false) b _ _ xs _ _ _ _ _ _ _ _ _ hv (by omega) (by omega) hp3) rfl fun x9 => vf (cPick x4.1 (x1.1 + 1) (vs.take 30) (x2.2.2 0) 0 ((4 : Nat) : Int) (Int.fmod V 997) (x9.2.2 1) (x4.2.1 + 1) ((Nat.succ 11 : Nat) : Int) ((g1 : Nat) : Int)) [9, 12] (n_pick (wI w false) b _ _ xs _ _ _ _ _ _ _ _ _ hv (by omega) (by omega) hp4) rfl fun x10 => vf (cGetL (x9.1 + 1) (signVs x9.2.1) 0 g1 (.str s1 (x9.2.1 + g1))) [0] (n_getL (wI w false) b _ _ _ _ _ (by omega) (valsFrom_get hg1)) rfl fun x11 => vf (cPick x4.1 (x1.1 + 1) (vs.take 30) (x2.2.2 0) 0 ((5 : Nat) : Int) (Int.fmod V 997) (x10.2.2 1) (x4.2.1 + 1) ((Nat.succ 2 : Nat) : Int) ((m2 : Nat) : Int)) [10, 13] (n_pick (wI w false) b _ _ xs _ _ _ _ _ _ _ _ _ hv (by omega) (by omega) hp5) rfl fun x12 => vf (cPick x4.1 (x1.1 + 1) (vs.take 30) (x2.2.2 0) 0 ((6 : Nat) : Int) (Int.fmod V 997) (x12.2.2 1) (x4.2.1 + 1) ((Nat.succ 11 : Nat) : Int) ((g2 : Nat) : Int)) [12, 15] (n_pick (wI w false) b _ _ xs _ _ _ _ _ _ _ _ _ hv (by omega) (by omega) hp6) rfl fun x13 => vf (cGetL (x12.1 + 1) (signVs x12.2.1) 0 g2 (.str s2 (x12.2.1 + g2))) [0] (n_getL (wI w false) b _ _ _ _ _ (by omega) (valsFrom_get hg2)) rfl fun x14 => ve) fun x1 x2 x3 x4 x5 x6 x7 x8 x9 x10 x11 x12 x13 x14 => ⟨⟨x4.1, (x1.1 + 1), (x5.1 + 2), natAt [x7.1, x10.1, x13.1], natAt [T, x14.2.1], (x2.2.2 0), (x13.2.2 1), (x4.2.1 + 1), 3, natAt [(x6.2.2 0), (x9.2.2 0), (x12.2.2 0)], natAt [x6.2.1 + g0, x9.2.1 + g1, x12.2.1 + g2]⟩, by cases b <;> rfl'⟩
theorem p_p0_3t (w : World) (b : Bool) (scr : Addr) (vs : List Value) (xs : List (Int × Nat)) (cnt : Nat) (V : Int) (m0 g0 m1 g1 m2 g2 : Nat) (s0 s1 s2 : Str) (hl : vs.length < 100) (hv : vs.take 30 = intL xs) (hx : xs.length < 100) (hV : preSum (numAt xs.toArray) xs.length = V) (hp0 : pickV xs (Int.fmod V 997) 0 3 = 2) (hp1 : pickV xs (Int.fmod V 997) 1 3 = m0) (hp2 : pickV xs (Int.fmod V 997) 2 12 = g0) (hs0 : g0 < 1000) (hg0 : signsL[g0]? = some s0) (hp3 : pickV xs (Int.fmod V 997) 3 3 = m1) (hp4 : pickV xs (Int.fmod V 997) 4 12 = g1) (hs1 : g1 < 1000) (hg1 : signsL[g1]? = some s1) (hp5 : pickV xs (Int.fmod V 997) 5 3 = m2) (hp6 : pickV xs (Int.fmod V 997) 6 12 = g2) (hs2 : g2 < 1000) (hg2 : signsL[g2]? = some s2) (B T : Nat) : PV (parF (wI w true) b 690 9000) fun l => ∃ q : Q2, Same (cutAT (parF (wI w true) b 690 9000) scr 2 409 (Kk [Kor,Kkc,Kkj,129,Kfh,Kps,Kef,Kac,Kll,Kag,Koa,Kdb,Koq,Kfv,Kns,Kal,Kjx,Kac,Kba,Kaf,Kjo,Kmh,Khj,Kox,Kgf,Kgf,Kbp,142,Kaf,Kah,144,Kmh,Kly,Kmg,Kax,Kax,Kbd,Kod,Kaf,Kah,147,Kmh,Kcv,Kcv,140,Knp,140,Kaf,19351,Kqr,255]) l ⟨[⟨scr, listN vs cnt, false⟩], B, T, []⟩ 1 [] [22, 21, 15, 18, 12, 8, 5, 2] ([]) (form2 (wP w true) scr B vs 7 (Int.fmod V 997) [(m0, s0), (m1, s1), (m2, s2)] q) ([])) := pv (vx (sliceSpec scr (B + 2) vs cnt (T + 1) 30 [3, 0]) (n_slice (wI w true) b _ _ _ _ _ _ (by rw [PySem.sizeLine_eq]; omega) _ _ (by decide)) fun x1 => vf (cLInit (x1.1 + 1) x1.1 (vs.take 30) 0) [0, 1] (n_LInit (wI w true) b _ _ _ _ (by rw [PySem.sizeLine_eq, List.length_take]; omega)) rfl fun x2 => vx (sliceSpec scr (x1.1 + 2) vs cnt (x2.2.1 + 1) 30 [6, 0]) (n_slice (wI w true) b _ _ _ _ _ _ (by rw [PySem.sizeLine_eq]; omega) _ _ (by decide)) fun x3 => vf (cSumV x3.1 (vs.take 30) 0 V) [0] (n_sumV (wI w true) b _ xs _ _ _ hv hV) rfl fun x4 => vf (cPick x4.1 (x1.1 + 1) (vs.take 30) (x2.2.2 0) 0 ((0 : Nat) : Int) (Int.fmod V 997) x2.2.1 (x4.2.1 + 1) ((Nat.succ 2 : Nat) : Int) 2) [0, 3] (n_pick (wI w true) b _ _ xs _ _ _ _ _ _ _ _ _ hv (by omega) (by omega) hp0) rfl fun x5 => vf (cPick x4.1 (x1.1 + 1) (vs.take 30) (x2.2.2 0) 0 ((1 : Nat) : Int) (Int.fmod V 997) (x5.2.2 1) (x4.2.1 + 1) ((Nat.succ 2 : Nat) : Int) ((m0 : Nat) : Int)) [4, 7] (n_pick (wI w true) b _ _ xs _ _ _ _ _ _ _ _ _ hv (by omega) (by omega) hp1) rfl fun x6 => vf (cPick x4.1 (x1.1 + 1) (vs.take 30) (x2.2.2 0) 0 ((2 : Nat) : Int) (Int.fmod V 997) (x6.2.2 1) (x4.2.1 + 1) ((Nat.succ 11 : Nat) : Int) ((g0 : Nat) : Int)) [6, 9] (n_pick (wI w true) b _ _ xs _ _ _ _ _ _ _ _ _ hv (by omega) (by omega) hp2) rfl fun x7 => vf (cGetL (x6.1 + 1) (signVs x6.2.1) 0 g0 (.str s0 (x6.2.1 + g0))) [0] (n_getL (wI w true) b _ _ _ _ _ (by omega) (valsFrom_get hg0)) rfl fun x8 => vf (cPick x4.1 (x1.1 + 1) (vs.take 30) (x2.2.2 0) 0 ((3 : Nat) : Int) (Int.fmod V 997) (x7.2.2 1) (x4.2.1 + 1) ((Nat.succ 2 : Nat) : Int) ((m1 : Nat) : Int)) [7, 10] (n_pick (wI w true) b _ _ xs _ _ _ _ _ _ _ _ _ hv (by omega) (by omega) hp3) rfl fun x9 => vf (cPick x4.1 (x1.1 + 1) (vs.take 30) (x2.2.2 0) 0 ((4 : Nat) : Int) (Int.fmod V 997) (x9.2.2 1) (x4.2.1 + 1) ((Nat.succ 11 : Nat) : Int) ((g1 : Nat) : Int)) [9, 12] (n_pick (wI w true) b _ _ xs _ _ _ _ _ _ _ _ _ hv (by omega) (by omega) hp4) rfl fun x10 => vf (cGetL (x9.1 + 1) (signVs x9.2.1) 0 g1 (.str s1 (x9.2.1 + g1))) [0] (n_getL (wI w true) b _ _ _ _ _ (by omega) (valsFrom_get hg1)) rfl fun x11 => vf (cPick x4.1 (x1.1 + 1) (vs.take 30) (x2.2.2 0) 0 ((5 : Nat) : Int) (Int.fmod V 997) (x10.2.2 1) (x4.2.1 + 1) ((Nat.succ 2 : Nat) : Int) ((m2 : Nat) : Int)) [10, 13] (n_pick (wI w true) b _ _ xs _ _ _ _ _ _ _ _ _ hv (by omega) (by omega) hp5) rfl fun x12 => vf (cPick x4.1 (x1.1 + 1) (vs.take 30) (x2.2.2 0) 0 ((6 : Nat) : Int) (Int.fmod V 997) (x12.2.2 1) (x4.2.1 + 1) ((Nat.succ 11 : Nat) : Int) ((g2 : Nat) : Int)) [12, 15] (n_pick (wI w true) b _ _ xs _ _ _ _ _ _ _ _ _ hv (by omega) (by omega) hp6) rfl fun x13 => vf (cGetL (x12.1 + 1) (signVs x12.2.1) 0 g2 (.str s2 (x12.2.1 + g2))) [0] (n_getL (wI w true) b _ _ _ _ _ (by omega) (valsFrom_get hg2)) rfl fun x14 => ve) fun x1 x2 x3 x4 x5 x6 x7 x8 x9 x10 x11 x12 x13 x14 => ⟨⟨x4.1, (x1.1 + 1), (x5.1 + 2), natAt [x7.1, x10.1, x13.1], natAt [T, x14.2.1], (x2.2.2 0), (x13.2.2 1), (x4.2.1 + 1), 3, natAt [(x6.2.2 0), (x9.2.2 0), (x12.2.2 0)], natAt [x6.2.1 + g0, x9.2.1 + g1, x12.2.1 + g2]⟩, by cases b <;> rfl'⟩
abbrev sT (s : String) : Tr := .str (Z s)
noncomputable def nmT (s : String) : Tr := .lst [sT "Name", sT s]
noncomputable def twT (g a b : String) : Tr := .lst [sT "Binary", sT g, nmT a, nmT b]
noncomputable def orT (a b : String) : Tr := .lst [sT "Logical", sT "||", nmT a, nmT b]
noncomputable def miT : Tr := .lst [sT "Unary", sT "-", nmT "b"]
noncomputable def oX : Nat → Str
  | 0 => Z "b"
  | 1 => Z "b + c"
  | 2 => Z "b in c"
  | 3 => Z "( b in c )"
  | 4 => Z "f ( b in c )"
  | 5 => Z "b ? c in d : e"
  | 6 => Z "b ? c : d in e"
  | 7 => Z "a [ b in c ]"
  | 8 => Z "b instanceof c"
  | 9 => Z "b < c in d"
  | 10 => Z "b || c in d"
  | _ => Z "- b in c"
noncomputable def oT : Nat → Tr
  | 0 => nmT "b"
  | 1 => twT "+" "b" "c"
  | 2 => twT "in" "b" "c"
  | 3 => twT "in" "b" "c"
  | 4 => .lst [sT "Call", nmT "f", .lst [twT "in" "b" "c"]]
  | 5 => .lst [sT "Cond", nmT "b", twT "in" "c" "d", nmT "e"]
  | 6 => .lst [sT "Cond", nmT "b", nmT "c", twT "in" "d" "e"]
  | 7 => .lst [sT "Index", nmT "a", twT "in" "b" "c"]
  | 8 => twT "instanceof" "b" "c"
  | 9 => .lst [sT "Binary", sT "in", twT "<" "b" "c", nmT "d"]
  | 10 => .lst [sT "Logical", sT "||", nmT "b", twT "in" "c" "d"]
  | _ => .lst [sT "Binary", sT "in", miT, nmT "c"]
noncomputable def oS : Nat → Tr
  | 2 => nmT "b"
  | 6 => .lst [sT "Cond", nmT "b", nmT "c", nmT "d"]
  | 9 => twT "<" "b" "c"
  | 10 => orT "b" "c"
  | 11 => miT
  | n => oT n
noncomputable def oL : Nat → Bool
  | 2 | 6 | 9 | 10 | 11 => true
  | _ => false
noncomputable def cTwo (P : Params) (kd sg a b : Str) : Cn := { co := fun f => fcall 901 [.str sg (f 0), .str a (f 1), .str b (f 2)], sl := [], res := fun y => okV (.ref (y 0)), add := fun _ => [], fs := fun y z => [treeF P (y 1) z (.ref (y 0)) (.lst [.str kd, .str sg, .lst [sT "Name", .str a], .lst [sT "Name", .str b]])], D := 24, U := 180 }
noncomputable def opTup (y : Nat → Nat) (i : Nat) : Addr × Obj := (y (1 + i), tupO [.str (oX i) (y (13 + i)), .ref (y (25 + i)), match oL i with | true => .ref (y (37 + i)) | false => .none])
noncomputable def opFs (P : Params) (y : Nat → Nat) (z : Nat) : List Fact :=
  [treeF P (y 49) z (.ref (y 25)) (oT 0), treeF P (y 49) z (.ref (y 26)) (oT 1), treeF P (y 49) z (.ref (y 27)) (oT 2), treeF P (y 49) z (.ref (y 28)) (oT 3), treeF P (y 49) z (.ref (y 29)) (oT 4), treeF P (y 49) z (.ref (y 30)) (oT 5), treeF P (y 49) z (.ref (y 31)) (oT 6), treeF P (y 49) z (.ref (y 32)) (oT 7), treeF P (y 49) z (.ref (y 33)) (oT 8), treeF P (y 49) z (.ref (y 34)) (oT 9), treeF P (y 49) z (.ref (y 35)) (oT 10), treeF P (y 49) z (.ref (y 36)) (oT 11),
   treeF P (y 49) z (.ref (y 39)) (oS 2), treeF P (y 49) z (.ref (y 43)) (oS 6), treeF P (y 49) z (.ref (y 46)) (oS 9), treeF P (y 49) z (.ref (y 47)) (oS 10), treeF P (y 49) z (.ref (y 48)) (oS 11)]
noncomputable def cOps (P : Params) : Cn :=
  { co := fun _ => fcall 906 [], sl := [], res := fun y => okV (.ref (y 0)),
    add := fun y => [(y 0, listN [.ref (y 1), .ref (y 2), .ref (y 3), .ref (y 4), .ref (y 5), .ref (y 6), .ref (y 7), .ref (y 8), .ref (y 9), .ref (y 10), .ref (y 11), .ref (y 12)] (y 50)), opTup y 0, opTup y 1, opTup y 2, opTup y 3, opTup y 4, opTup y 5, opTup y 6, opTup y 7, opTup y 8, opTup y 9, opTup y 10, opTup y 11],
    fs := fun y z => opFs P y z, D := 48, U := 360 }
theorem n_twoB (w : World) (b bi : Bool) (sg a b0 : Str) (h : (sg.cps.toList == (Z "||").cps.toList) = false) : Nd (wI w bi) b (cTwo (wP w bi) (Z "Binary") sg a b0) := fun {ix} I => by
    refine node_factV (PD := 24) (PU := 180) (Dv := 0) (Uv := 0) (e := 0) (u := 0) (by rfl) I (Nat.le_refl _) (Nat.le_refl _) [] [0, 3, 1] 82 (Kk [Krd,Kaj,Kaf,Kaw,Kai,Kaw]) (by rfl') rfl rfl (fun f B T => .cons XT ((cStrEq sg (Z "||") false).spec []) fun x1 => .nil) (fun f B T => ⟨Node.du (n_str_eq (w := wI w bi) (b := b) _ _ _ h (ixOk (by rfl'))), fun x1 => trivial⟩) fun f B T => fun x1 => ⟨natAt [(B + 5), B], [((B + 5), listN [.str (Z "Binary") x1.2.1, .str sg (f 0), .ref (B + 2), .ref (B + 4)] 0), ((B + 2), listN [.str (Z "Name") (x1.2.1 + 2), .str a (f 1)] 0), ((B + 4), listN [.str (Z "Name") (x1.2.1 + 4), .str b0 (f 2)] 0)], [], by cases b <;> rfl', fun h' hB hs hf F hF => ?_⟩
    have m (i : Nat) {q} (e : _ = some q) := hs q (List.mem_of_getElem? (i := i) e)
    rcases List.mem_cons.mp hF with rfl | hF
    · exact ⟨(.lst _ _ _ _ (m 0 rfl).2.1 (m 0 rfl).2.2 (m 0 rfl).1 (.cons (.str _ _) (.cons (.str _ _) (.cons (.lst _ _ _ _ (m 1 rfl).2.1 (m 1 rfl).2.2 (m 1 rfl).1 (.cons (.str _ _) (.cons (.str _ _) .nil))) (.cons (.lst _ _ _ _ (m 2 rfl).2.1 (m 2 rfl).2.2 (m 2 rfl).1 (.cons (.str _ _) (.cons (.str _ _) .nil))) .nil))))), treeF_stable _ _ _ _ _, Nat.le_refl _, Nat.le_refl _⟩
    cases hF
theorem n_twoL (w : World) (b bi : Bool) (sg a b0 : Str) (h : (sg.cps.toList == (Z "||").cps.toList) = true) : Nd (wI w bi) b (cTwo (wP w bi) (Z "Logical") sg a b0) := fun {ix} I => by
    refine node_factV (PD := 24) (PU := 180) (Dv := 0) (Uv := 0) (e := 0) (u := 0) (by rfl) I (Nat.le_refl _) (Nat.le_refl _) [] [0, 3, 1] 82 (Kk [Krd,Kaj,Kaf,Kaw,Kai,Kaw]) (by rfl') rfl rfl (fun f B T => .cons XT ((cStrEq sg (Z "||") true).spec []) fun x1 => .nil) (fun f B T => ⟨Node.du (n_str_eq (w := wI w bi) (b := b) _ _ _ h (ixOk (by rfl'))), fun x1 => trivial⟩) fun f B T => fun x1 => ⟨natAt [(B + 5), B], [((B + 5), listN [.str (Z "Logical") x1.2.1, .str sg (f 0), .ref (B + 2), .ref (B + 4)] 0), ((B + 2), listN [.str (Z "Name") (x1.2.1 + 2), .str a (f 1)] 0), ((B + 4), listN [.str (Z "Name") (x1.2.1 + 4), .str b0 (f 2)] 0)], [], by cases b <;> rfl', fun h' hB hs hf F hF => ?_⟩
    have m (i : Nat) {q} (e : _ = some q) := hs q (List.mem_of_getElem? (i := i) e)
    rcases List.mem_cons.mp hF with rfl | hF
    · exact ⟨(.lst _ _ _ _ (m 0 rfl).2.1 (m 0 rfl).2.2 (m 0 rfl).1 (.cons (.str _ _) (.cons (.str _ _) (.cons (.lst _ _ _ _ (m 1 rfl).2.1 (m 1 rfl).2.2 (m 1 rfl).1 (.cons (.str _ _) (.cons (.str _ _) .nil))) (.cons (.lst _ _ _ _ (m 2 rfl).2.1 (m 2 rfl).2.2 (m 2 rfl).1 (.cons (.str _ _) (.cons (.str _ _) .nil))) .nil))))), treeF_stable _ _ _ _ _, Nat.le_refl _, Nat.le_refl _⟩
    cases hF
theorem n_ops (w : World) (b bi : Bool)  : Nd (wI w bi) b (cOps (wP w bi)) := fun {ix} I => by
    refine node_factV (PD := 48) (PU := 360) (Dv := 0) (Uv := 0) (e := 0) (u := 0) (by rfl) I (Nat.le_refl _) (Nat.le_refl _) [] [0, 62, 61, 58, 56, 51, 43, 24, 20, 19, 13, 9, 2, 63, 52, 54, 53, 44, 47, 45, 32, 35, 33, 21, 22, 14, 15, 10, 11, 3, 6, 7, 4, 59, 27, 30, 28, 41] (cond bi 842 852) (cond bi (Kk [Kab,Kag,Kae,Kbn,Kbn,Kcw,Kmo,Kbn,Kqt,136,Kio,Kdv,Kio,129,Kpg,Kaq,Kqt,Kcw,128,Kgn,Kbn,Kad,Kaj,Kak,Kns,132,Kal,Kac,Kju,16389,Kgn,Klr,Kdr,137,Kaz,Kas,Kju,138,Knp,Kkf,Kpy,142,Kcn,Kaf,21673,Kjv,169,Khp,Khp,169,Kkn,Kcc,21646,Kkn,Kcc,0x2a8d1a346800e,Kqt,Kbn,0x2800a0,Koy,0xb16205001,Kbn,0x2c58b1,Kaq,177,Kcw,16436,Khj,181,Khj,Kqt,Kbn,Kmg,Kcw,0x178f1e3c,Kcw,0x122048bf,Kod,0x204881]) (Kk [Kab,Kag,Kae,Kbn,Kbn,Kcw,Kmo,Kbn,Kqt,136,Kio,Kdv,Kio,129,Kpg,Kaq,Kqt,Kcw,128,Kgn,Kbn,Kad,Kaj,Kak,Kpf,132,Kal,Kac,Kju,16389,Kgn,Klr,Kdr,137,Kaz,Kas,Kju,138,Knp,Kkf,Kpy,142,Kcn,Kaf,21673,Kjv,169,Khp,Khp,169,Kkn,Kcc,21646,Kkn,Kcc,0x2a8d1a346800e,Kqt,Kbn,0x2800a0,Koy,0xb16205001,Kbn,0x2c58b1,Kaq,177,Kcw,16436,Khj,181,Khj,Kqt,Kbn,Kmg,Kcw,0x178f1e3c,Kcw,0x122048bf,Kod,0x204881])) (by rfl') rfl rfl (fun f B T => .cons XT ((cTwo (wP w bi) (Z "Binary") (Z "+") (Z "b") (Z "c")).spec []) fun x1 => .cons XT ((cTwo (wP w bi) (Z "Binary") (Z "in") (Z "b") (Z "c")).spec []) fun x2 => .cons XT ((cTwo (wP w bi) (Z "Binary") (Z "in") (Z "b") (Z "c")).spec []) fun x3 => .cons XT ((cTwo (wP w bi) (Z "Binary") (Z "in") (Z "b") (Z "c")).spec []) fun x4 => .cons XT ((cTwo (wP w bi) (Z "Binary") (Z "in") (Z "c") (Z "d")).spec []) fun x5 => .cons XT ((cTwo (wP w bi) (Z "Binary") (Z "in") (Z "d") (Z "e")).spec []) fun x6 => .cons XT ((cTwo (wP w bi) (Z "Binary") (Z "in") (Z "b") (Z "c")).spec []) fun x7 => .cons XT ((cTwo (wP w bi) (Z "Binary") (Z "instanceof") (Z "b") (Z "c")).spec []) fun x8 => .cons XT ((cTwo (wP w bi) (Z "Binary") (Z "<") (Z "b") (Z "c")).spec []) fun x9 => .cons XT ((cTwo (wP w bi) (Z "Binary") (Z "in") (Z "c") (Z "d")).spec []) fun x10 => .cons XT ((cTwo (wP w bi) (Z "Logical") (Z "||") (Z "b") (Z "c")).spec []) fun x11 => .nil) (fun f B T => ⟨Node.du (n_twoB w b bi (Z "+") (Z "b") (Z "c") (by rfl') (ixOk (by rfl'))), fun x1 => ⟨Node.du (n_twoB w b bi (Z "in") (Z "b") (Z "c") (by rfl') (ixOk (by rfl'))), fun x2 => ⟨Node.du (n_twoB w b bi (Z "in") (Z "b") (Z "c") (by rfl') (ixOk (by rfl'))), fun x3 => ⟨Node.du (n_twoB w b bi (Z "in") (Z "b") (Z "c") (by rfl') (ixOk (by rfl'))), fun x4 => ⟨Node.du (n_twoB w b bi (Z "in") (Z "c") (Z "d") (by rfl') (ixOk (by rfl'))), fun x5 => ⟨Node.du (n_twoB w b bi (Z "in") (Z "d") (Z "e") (by rfl') (ixOk (by rfl'))), fun x6 => ⟨Node.du (n_twoB w b bi (Z "in") (Z "b") (Z "c") (by rfl') (ixOk (by rfl'))), fun x7 => ⟨Node.du (n_twoB w b bi (Z "instanceof") (Z "b") (Z "c") (by rfl') (ixOk (by rfl'))), fun x8 => ⟨Node.du (n_twoB w b bi (Z "<") (Z "b") (Z "c") (by rfl') (ixOk (by rfl'))), fun x9 => ⟨Node.du (n_twoB w b bi (Z "in") (Z "c") (Z "d") (by rfl') (ixOk (by rfl'))), fun x10 => ⟨Node.du (n_twoL w b bi (Z "||") (Z "b") (Z "c") (by rfl') (ixOk (by rfl'))), fun x11 => trivial⟩⟩⟩⟩⟩⟩⟩⟩⟩⟩⟩) fun f B T => fun x1 x2 x3 x4 x5 x6 x7 x8 x9 x10 x11 => ⟨natAt [(x11.1 + 9), (B + 3), x1.1, (x2.1 + 2), x3.1, (x4.1 + 2), (x5.1 + 3), (x6.1 + 18), (x7.1 + 1), x8.1, (x9.1 + 3), x11.1, (x11.1 + 7), T, (T + 4), x1.2.1, (x2.2.1 + 4), x3.2.1, (x4.2.1 + 1), (x6.2.1 + 20), (x6.2.1 + 23), x7.2.1, (x9.2.1 + 1), (x9.2.1 + 7), (x11.2.1 + 6), (B + 2), (x1.2.2 0), (x2.2.2 0), (x3.2.2 0), (x4.1 + 1), (x5.1 + 2), (x6.1 + 10), x7.1, (x8.2.2 0), (x9.1 + 2), x10.1, (x11.1 + 6), 0, 0, (x2.1 + 1), 0, 0, 0, (x6.1 + 15), 0, 0, (x9.2.2 0), (x11.2.2 0), (x11.1 + 3), B, 0], [((B + 2), listN [.str (Z "Name") (T + 3), .str (Z "b") (T + 1)] 0), ((x4.1 + 1), listN [.str (Z "Call") (x3.2.1 + 1), .ref (x3.1 + 2), .ref x4.1] 0), ((x3.1 + 2), listN [.str (Z "Name") (x3.2.1 + 4), .str (Z "f") (x3.2.1 + 2)] 0), (x4.1, listN [.ref (x4.2.2 0)] 0), ((x5.1 + 2), listN [.str (Z "Cond") (x4.2.1 + 2), .ref (x4.1 + 6), .ref (x5.2.2 0), .ref (x5.1 + 1)] 0), ((x4.1 + 6), listN [.str (Z "Name") (x4.2.1 + 5), .str (Z "b") (x4.2.1 + 3)] 0), ((x5.1 + 1), listN [.str (Z "Name") (x5.2.1 + 2), .str (Z "e") x5.2.1] 0), ((x6.1 + 10), listN [.str (Z "Cond") (x6.2.1 + 4), .ref (x6.1 + 7), .ref (x6.1 + 9), .ref (x6.2.2 0)] 0), ((x6.1 + 7), listN [.str (Z "Name") (x6.2.1 + 7), .str (Z "b") (x6.2.1 + 5)] 0), ((x6.1 + 9), listN [.str (Z "Name") (x6.2.1 + 10), .str (Z "c") (x6.2.1 + 8)] 0), (x7.1, listN [.str (Z "Index") (x6.2.1 + 24), .ref (x6.1 + 20), .ref (x7.2.2 0)] 0), ((x6.1 + 20), listN [.str (Z "Name") (x6.2.1 + 27), .str (Z "a") (x6.2.1 + 25)] 0), ((x9.1 + 2), listN [.str (Z "Binary") (x9.2.1 + 2), .str (Z "in") (x9.2.1 + 3), .ref (x9.2.2 0), .ref (x9.1 + 1)] 0), ((x9.1 + 1), listN [.str (Z "Name") (x9.2.1 + 6), .str (Z "d") (x9.2.1 + 4)] 0), (x10.1, listN [.str (Z "Logical") (x9.2.1 + 8), .str (Z "||") (x9.2.1 + 9), .ref (x9.1 + 5), .ref (x10.2.2 0)] 0), ((x9.1 + 5), listN [.str (Z "Name") (x9.2.1 + 12), .str (Z "b") (x9.2.1 + 10)] 0), ((x11.1 + 6), listN [.str (Z "Binary") (x11.2.1 + 7), .str (Z "in") (x11.2.1 + 8), .ref (x11.1 + 3), .ref (x11.1 + 5)] 0), ((x11.1 + 3), listN [.str (Z "Unary") x11.2.1, .str (Z "-") (x11.2.1 + 1), .ref (x11.1 + 2)] 0), ((x11.1 + 2), listN [.str (Z "Name") (x11.2.1 + 4), .str (Z "b") (x11.2.1 + 2)] 0), ((x11.1 + 5), listN [.str (Z "Name") (x11.2.1 + 11), .str (Z "c") (x11.2.1 + 9)] 0), ((x2.1 + 1), listN [.str (Z "Name") (x2.2.1 + 2), .str (Z "b") x2.2.1] 0), ((x6.1 + 15), listN [.str (Z "Cond") (x6.2.1 + 12), .ref (x6.1 + 12), .ref (x6.1 + 14), .ref (x6.1 + 1)] 0), ((x6.1 + 12), listN [.str (Z "Name") (x6.2.1 + 15), .str (Z "b") (x6.2.1 + 13)] 0), ((x6.1 + 14), listN [.str (Z "Name") (x6.2.1 + 18), .str (Z "c") (x6.2.1 + 16)] 0), ((x6.1 + 1), listN [.str (Z "Name") (x6.2.1 + 2), .str (Z "d") x6.2.1] 0)], [treeF (wP w bi) (x11.2.2 1) x11.1 (.ref (x11.2.2 0)) (.lst [sT "Logical", sT "||", nmT "b", nmT "c"]), treeF (wP w bi) (x10.2.2 1) x10.1 (.ref (x10.2.2 0)) (.lst [sT "Binary", sT "in", nmT "c", nmT "d"]), treeF (wP w bi) (x9.2.2 1) x9.1 (.ref (x9.2.2 0)) (.lst [sT "Binary", sT "<", nmT "b", nmT "c"]), treeF (wP w bi) (x8.2.2 1) x8.1 (.ref (x8.2.2 0)) (.lst [sT "Binary", sT "instanceof", nmT "b", nmT "c"]), treeF (wP w bi) (x7.2.2 1) x7.1 (.ref (x7.2.2 0)) (.lst [sT "Binary", sT "in", nmT "b", nmT "c"]), treeF (wP w bi) (x6.2.2 1) x6.1 (.ref (x6.2.2 0)) (.lst [sT "Binary", sT "in", nmT "d", nmT "e"]), treeF (wP w bi) (x5.2.2 1) x5.1 (.ref (x5.2.2 0)) (.lst [sT "Binary", sT "in", nmT "c", nmT "d"]), treeF (wP w bi) (x4.2.2 1) x4.1 (.ref (x4.2.2 0)) (.lst [sT "Binary", sT "in", nmT "b", nmT "c"]), treeF (wP w bi) (x3.2.2 1) x3.1 (.ref (x3.2.2 0)) (.lst [sT "Binary", sT "in", nmT "b", nmT "c"]), treeF (wP w bi) (x2.2.2 1) x2.1 (.ref (x2.2.2 0)) (.lst [sT "Binary", sT "in", nmT "b", nmT "c"]), treeF (wP w bi) (x1.2.2 1) x1.1 (.ref (x1.2.2 0)) (.lst [sT "Binary", sT "+", nmT "b", nmT "c"])], by cases b <;> cases bi <;> rfl', fun h' hB hs hf F hF => ?_⟩
    have m (i : Nat) {q} (e : _ = some q) := hs q (List.mem_of_getElem? (i := i) e)
    rcases List.mem_cons.mp hF with rfl | hF
    · exact ⟨(.lst _ _ _ _ (m 13 rfl).2.1 (m 13 rfl).2.2 (m 13 rfl).1 (.cons (.str _ _) (.cons (.str _ _) .nil))), treeF_stable _ _ _ _ _, Nat.le_refl _, Nat.le_refl _⟩
    rcases List.mem_cons.mp hF with rfl | hF
    · exact ⟨(kid (hf _ (List.mem_of_getElem? (i := 10) rfl))), treeF_stable _ _ _ _ _, Nat.le_refl _, Nat.le_refl _⟩
    rcases List.mem_cons.mp hF with rfl | hF
    · exact ⟨(kid (hf _ (List.mem_of_getElem? (i := 9) rfl))), treeF_stable _ _ _ _ _, Nat.le_refl _, Nat.le_refl _⟩
    rcases List.mem_cons.mp hF with rfl | hF
    · exact ⟨(kid (hf _ (List.mem_of_getElem? (i := 8) rfl))), treeF_stable _ _ _ _ _, Nat.le_refl _, Nat.le_refl _⟩
    rcases List.mem_cons.mp hF with rfl | hF
    · exact ⟨(.lst _ _ _ _ (m 14 rfl).2.1 (m 14 rfl).2.2 (m 14 rfl).1 (.cons (.str _ _) (.cons (.lst _ _ _ _ (m 15 rfl).2.1 (m 15 rfl).2.2 (m 15 rfl).1 (.cons (.str _ _) (.cons (.str _ _) .nil))) (.cons (.lst _ _ _ _ (m 16 rfl).2.1 (m 16 rfl).2.2 (m 16 rfl).1 (.cons (kid (hf _ (List.mem_of_getElem? (i := 7) rfl))) .nil)) .nil)))), treeF_stable _ _ _ _ _, Nat.le_refl _, Nat.le_refl _⟩
    rcases List.mem_cons.mp hF with rfl | hF
    · exact ⟨(.lst _ _ _ _ (m 17 rfl).2.1 (m 17 rfl).2.2 (m 17 rfl).1 (.cons (.str _ _) (.cons (.lst _ _ _ _ (m 18 rfl).2.1 (m 18 rfl).2.2 (m 18 rfl).1 (.cons (.str _ _) (.cons (.str _ _) .nil))) (.cons (kid (hf _ (List.mem_of_getElem? (i := 6) rfl))) (.cons (.lst _ _ _ _ (m 19 rfl).2.1 (m 19 rfl).2.2 (m 19 rfl).1 (.cons (.str _ _) (.cons (.str _ _) .nil))) .nil))))), treeF_stable _ _ _ _ _, Nat.le_refl _, Nat.le_refl _⟩
    rcases List.mem_cons.mp hF with rfl | hF
    · exact ⟨(.lst _ _ _ _ (m 20 rfl).2.1 (m 20 rfl).2.2 (m 20 rfl).1 (.cons (.str _ _) (.cons (.lst _ _ _ _ (m 21 rfl).2.1 (m 21 rfl).2.2 (m 21 rfl).1 (.cons (.str _ _) (.cons (.str _ _) .nil))) (.cons (.lst _ _ _ _ (m 22 rfl).2.1 (m 22 rfl).2.2 (m 22 rfl).1 (.cons (.str _ _) (.cons (.str _ _) .nil))) (.cons (kid (hf _ (List.mem_of_getElem? (i := 5) rfl))) .nil))))), treeF_stable _ _ _ _ _, Nat.le_refl _, Nat.le_refl _⟩
    rcases List.mem_cons.mp hF with rfl | hF
    · exact ⟨(.lst _ _ _ _ (m 23 rfl).2.1 (m 23 rfl).2.2 (m 23 rfl).1 (.cons (.str _ _) (.cons (.lst _ _ _ _ (m 24 rfl).2.1 (m 24 rfl).2.2 (m 24 rfl).1 (.cons (.str _ _) (.cons (.str _ _) .nil))) (.cons (kid (hf _ (List.mem_of_getElem? (i := 4) rfl))) .nil)))), treeF_stable _ _ _ _ _, Nat.le_refl _, Nat.le_refl _⟩
    rcases List.mem_cons.mp hF with rfl | hF
    · exact ⟨(kid (hf _ (List.mem_of_getElem? (i := 3) rfl))), treeF_stable _ _ _ _ _, Nat.le_refl _, Nat.le_refl _⟩
    rcases List.mem_cons.mp hF with rfl | hF
    · exact ⟨(.lst _ _ _ _ (m 25 rfl).2.1 (m 25 rfl).2.2 (m 25 rfl).1 (.cons (.str _ _) (.cons (.str _ _) (.cons (kid (hf _ (List.mem_of_getElem? (i := 2) rfl))) (.cons (.lst _ _ _ _ (m 26 rfl).2.1 (m 26 rfl).2.2 (m 26 rfl).1 (.cons (.str _ _) (.cons (.str _ _) .nil))) .nil))))), treeF_stable _ _ _ _ _, Nat.le_refl _, Nat.le_refl _⟩
    rcases List.mem_cons.mp hF with rfl | hF
    · exact ⟨(.lst _ _ _ _ (m 27 rfl).2.1 (m 27 rfl).2.2 (m 27 rfl).1 (.cons (.str _ _) (.cons (.str _ _) (.cons (.lst _ _ _ _ (m 28 rfl).2.1 (m 28 rfl).2.2 (m 28 rfl).1 (.cons (.str _ _) (.cons (.str _ _) .nil))) (.cons (kid (hf _ (List.mem_of_getElem? (i := 1) rfl))) .nil))))), treeF_stable _ _ _ _ _, Nat.le_refl _, Nat.le_refl _⟩
    rcases List.mem_cons.mp hF with rfl | hF
    · exact ⟨(.lst _ _ _ _ (m 29 rfl).2.1 (m 29 rfl).2.2 (m 29 rfl).1 (.cons (.str _ _) (.cons (.str _ _) (.cons (.lst _ _ _ _ (m 30 rfl).2.1 (m 30 rfl).2.2 (m 30 rfl).1 (.cons (.str _ _) (.cons (.str _ _) (.cons (.lst _ _ _ _ (m 31 rfl).2.1 (m 31 rfl).2.2 (m 31 rfl).1 (.cons (.str _ _) (.cons (.str _ _) .nil))) .nil)))) (.cons (.lst _ _ _ _ (m 32 rfl).2.1 (m 32 rfl).2.2 (m 32 rfl).1 (.cons (.str _ _) (.cons (.str _ _) .nil))) .nil))))), treeF_stable _ _ _ _ _, Nat.le_refl _, Nat.le_refl _⟩
    rcases List.mem_cons.mp hF with rfl | hF
    · exact ⟨(.lst _ _ _ _ (m 33 rfl).2.1 (m 33 rfl).2.2 (m 33 rfl).1 (.cons (.str _ _) (.cons (.str _ _) .nil))), treeF_stable _ _ _ _ _, Nat.le_refl _, Nat.le_refl _⟩
    rcases List.mem_cons.mp hF with rfl | hF
    · exact ⟨(.lst _ _ _ _ (m 34 rfl).2.1 (m 34 rfl).2.2 (m 34 rfl).1 (.cons (.str _ _) (.cons (.lst _ _ _ _ (m 35 rfl).2.1 (m 35 rfl).2.2 (m 35 rfl).1 (.cons (.str _ _) (.cons (.str _ _) .nil))) (.cons (.lst _ _ _ _ (m 36 rfl).2.1 (m 36 rfl).2.2 (m 36 rfl).1 (.cons (.str _ _) (.cons (.str _ _) .nil))) (.cons (.lst _ _ _ _ (m 37 rfl).2.1 (m 37 rfl).2.2 (m 37 rfl).1 (.cons (.str _ _) (.cons (.str _ _) .nil))) .nil))))), treeF_stable _ _ _ _ _, Nat.le_refl _, Nat.le_refl _⟩
    rcases List.mem_cons.mp hF with rfl | hF
    · exact ⟨(kid (hf _ (List.mem_of_getElem? (i := 2) rfl))), treeF_stable _ _ _ _ _, Nat.le_refl _, Nat.le_refl _⟩
    rcases List.mem_cons.mp hF with rfl | hF
    · exact ⟨(kid (hf _ (List.mem_of_getElem? (i := 0) rfl))), treeF_stable _ _ _ _ _, Nat.le_refl _, Nat.le_refl _⟩
    rcases List.mem_cons.mp hF with rfl | hF
    · exact ⟨(.lst _ _ _ _ (m 30 rfl).2.1 (m 30 rfl).2.2 (m 30 rfl).1 (.cons (.str _ _) (.cons (.str _ _) (.cons (.lst _ _ _ _ (m 31 rfl).2.1 (m 31 rfl).2.2 (m 31 rfl).1 (.cons (.str _ _) (.cons (.str _ _) .nil))) .nil)))), treeF_stable _ _ _ _ _, Nat.le_refl _, Nat.le_refl _⟩
    cases hF
noncomputable def opR (y : Nat → Nat) (i : Nat) : List Value := [.ref (y 1), .ref (y 2), .ref (y 3), .ref (y 4), .ref (y 5), .ref (y 6), .ref (y 7), .ref (y 8), .ref (y 9), .ref (y 10), .ref (y 11), .ref (y 12)].set i (.ref (y 13))
noncomputable def opY (y : Nat → Nat) (i : Nat) : Nat → Nat
  | 13 => y (1 + i)
  | 14 => y (13 + i)
  | 15 => y (25 + i)
  | 16 => y (37 + i)
  | j => y j
theorem opR_get (y : Nat → Nat) (i : Nat) (h : i < 12) : (opR y i)[i]? = some (.ref (y 13)) := by
  unfold opR
  rw [List.getElem?_set_self]
  exact h
noncomputable def cOpsI (P : Params) (i : Nat) (X : Str) (T S : Tr) (lf : Bool) : Cn :=
  { co := fun _ => fcall 906 [], sl := [], res := fun y => okV (.ref (y 0)),
    add := fun y => [(y 0, listN (opR y i) (y 50)), (y 13, tupO [.str X (y 14), .ref (y 15), match lf with | true => .ref (y 16) | false => .none])],
    fs := fun y z => match lf with | true => [treeF P (y 49) z (.ref (y 15)) T, treeF P (y 49) z (.ref (y 16)) S] | false => [treeF P (y 49) z (.ref (y 15)) T], D := 48, U := 360 }
theorem n_op0 (w : World) (b bi : Bool) : Nd (wI w bi) b (cOpsI (wI w bi).params 0 (oX 0) (oT 0) (oS 0) (oL 0)) := fun {ix} I =>
  Node.weak (n_ops w b bi (ix := ix) ⟨I.1, I.2⟩) ⟨rfl, rfl, rfl, rfl, rfl, rfl, rfl, rfl⟩ fun x h h' q => by
    refine ⟨(x.1, x.2.1, opY x.2.2 0), rfl, rfl, q.keep, q.size, q.grow, q.upd, fun p hp => ?_, List.Nodup.sublist (List.Sublist.cons_cons _ (List.singleton_sublist.mpr (List.mem_of_getElem? (i := 0) rfl))) q.nd, fun F hF => ?_⟩
    · rcases List.mem_cons.mp hp with rfl | hp
      · exact q.add _ (.head _)
      · rw [List.mem_singleton.mp hp]
        exact q.add _ (List.mem_of_getElem? (i := 1) rfl)
    rcases List.mem_cons.mp hF with rfl | hF
    · have z := q.fact _ (List.mem_of_getElem? (i := 0) rfl)
      exact ⟨z.1, z.2.1, z.2.2.1, z.2.2.2.1, fun h => nomatch h⟩
    cases hF
theorem n_op1 (w : World) (b bi : Bool) : Nd (wI w bi) b (cOpsI (wI w bi).params 1 (oX 1) (oT 1) (oS 1) (oL 1)) := fun {ix} I =>
  Node.weak (n_ops w b bi (ix := ix) ⟨I.1, I.2⟩) ⟨rfl, rfl, rfl, rfl, rfl, rfl, rfl, rfl⟩ fun x h h' q => by
    refine ⟨(x.1, x.2.1, opY x.2.2 1), rfl, rfl, q.keep, q.size, q.grow, q.upd, fun p hp => ?_, List.Nodup.sublist (List.Sublist.cons_cons _ (List.singleton_sublist.mpr (List.mem_of_getElem? (i := 1) rfl))) q.nd, fun F hF => ?_⟩
    · rcases List.mem_cons.mp hp with rfl | hp
      · exact q.add _ (.head _)
      · rw [List.mem_singleton.mp hp]
        exact q.add _ (List.mem_of_getElem? (i := 2) rfl)
    rcases List.mem_cons.mp hF with rfl | hF
    · have z := q.fact _ (List.mem_of_getElem? (i := 1) rfl)
      exact ⟨z.1, z.2.1, z.2.2.1, z.2.2.2.1, fun h => nomatch h⟩
    cases hF
theorem n_op2 (w : World) (b bi : Bool) : Nd (wI w bi) b (cOpsI (wI w bi).params 2 (oX 2) (oT 2) (oS 2) (oL 2)) := fun {ix} I =>
  Node.weak (n_ops w b bi (ix := ix) ⟨I.1, I.2⟩) ⟨rfl, rfl, rfl, rfl, rfl, rfl, rfl, rfl⟩ fun x h h' q => by
    refine ⟨(x.1, x.2.1, opY x.2.2 2), rfl, rfl, q.keep, q.size, q.grow, q.upd, fun p hp => ?_, List.Nodup.sublist (List.Sublist.cons_cons _ (List.singleton_sublist.mpr (List.mem_of_getElem? (i := 2) rfl))) q.nd, fun F hF => ?_⟩
    · rcases List.mem_cons.mp hp with rfl | hp
      · exact q.add _ (.head _)
      · rw [List.mem_singleton.mp hp]
        exact q.add _ (List.mem_of_getElem? (i := 3) rfl)
    rcases List.mem_cons.mp hF with rfl | hF
    · have z := q.fact _ (List.mem_of_getElem? (i := 2) rfl)
      exact ⟨z.1, z.2.1, z.2.2.1, z.2.2.2.1, fun h => nomatch h⟩
    rcases List.mem_cons.mp hF with rfl | hF
    · have z := q.fact _ (List.mem_of_getElem? (i := 12) rfl)
      exact ⟨z.1, z.2.1, z.2.2.1, z.2.2.2.1, fun h => nomatch h⟩
    cases hF
theorem n_op3 (w : World) (b bi : Bool) : Nd (wI w bi) b (cOpsI (wI w bi).params 3 (oX 3) (oT 3) (oS 3) (oL 3)) := fun {ix} I =>
  Node.weak (n_ops w b bi (ix := ix) ⟨I.1, I.2⟩) ⟨rfl, rfl, rfl, rfl, rfl, rfl, rfl, rfl⟩ fun x h h' q => by
    refine ⟨(x.1, x.2.1, opY x.2.2 3), rfl, rfl, q.keep, q.size, q.grow, q.upd, fun p hp => ?_, List.Nodup.sublist (List.Sublist.cons_cons _ (List.singleton_sublist.mpr (List.mem_of_getElem? (i := 3) rfl))) q.nd, fun F hF => ?_⟩
    · rcases List.mem_cons.mp hp with rfl | hp
      · exact q.add _ (.head _)
      · rw [List.mem_singleton.mp hp]
        exact q.add _ (List.mem_of_getElem? (i := 4) rfl)
    rcases List.mem_cons.mp hF with rfl | hF
    · have z := q.fact _ (List.mem_of_getElem? (i := 3) rfl)
      exact ⟨z.1, z.2.1, z.2.2.1, z.2.2.2.1, fun h => nomatch h⟩
    cases hF
theorem n_op4 (w : World) (b bi : Bool) : Nd (wI w bi) b (cOpsI (wI w bi).params 4 (oX 4) (oT 4) (oS 4) (oL 4)) := fun {ix} I =>
  Node.weak (n_ops w b bi (ix := ix) ⟨I.1, I.2⟩) ⟨rfl, rfl, rfl, rfl, rfl, rfl, rfl, rfl⟩ fun x h h' q => by
    refine ⟨(x.1, x.2.1, opY x.2.2 4), rfl, rfl, q.keep, q.size, q.grow, q.upd, fun p hp => ?_, List.Nodup.sublist (List.Sublist.cons_cons _ (List.singleton_sublist.mpr (List.mem_of_getElem? (i := 4) rfl))) q.nd, fun F hF => ?_⟩
    · rcases List.mem_cons.mp hp with rfl | hp
      · exact q.add _ (.head _)
      · rw [List.mem_singleton.mp hp]
        exact q.add _ (List.mem_of_getElem? (i := 5) rfl)
    rcases List.mem_cons.mp hF with rfl | hF
    · have z := q.fact _ (List.mem_of_getElem? (i := 4) rfl)
      exact ⟨z.1, z.2.1, z.2.2.1, z.2.2.2.1, fun h => nomatch h⟩
    cases hF
theorem n_op5 (w : World) (b bi : Bool) : Nd (wI w bi) b (cOpsI (wI w bi).params 5 (oX 5) (oT 5) (oS 5) (oL 5)) := fun {ix} I =>
  Node.weak (n_ops w b bi (ix := ix) ⟨I.1, I.2⟩) ⟨rfl, rfl, rfl, rfl, rfl, rfl, rfl, rfl⟩ fun x h h' q => by
    refine ⟨(x.1, x.2.1, opY x.2.2 5), rfl, rfl, q.keep, q.size, q.grow, q.upd, fun p hp => ?_, List.Nodup.sublist (List.Sublist.cons_cons _ (List.singleton_sublist.mpr (List.mem_of_getElem? (i := 5) rfl))) q.nd, fun F hF => ?_⟩
    · rcases List.mem_cons.mp hp with rfl | hp
      · exact q.add _ (.head _)
      · rw [List.mem_singleton.mp hp]
        exact q.add _ (List.mem_of_getElem? (i := 6) rfl)
    rcases List.mem_cons.mp hF with rfl | hF
    · have z := q.fact _ (List.mem_of_getElem? (i := 5) rfl)
      exact ⟨z.1, z.2.1, z.2.2.1, z.2.2.2.1, fun h => nomatch h⟩
    cases hF
theorem n_op6 (w : World) (b bi : Bool) : Nd (wI w bi) b (cOpsI (wI w bi).params 6 (oX 6) (oT 6) (oS 6) (oL 6)) := fun {ix} I =>
  Node.weak (n_ops w b bi (ix := ix) ⟨I.1, I.2⟩) ⟨rfl, rfl, rfl, rfl, rfl, rfl, rfl, rfl⟩ fun x h h' q => by
    refine ⟨(x.1, x.2.1, opY x.2.2 6), rfl, rfl, q.keep, q.size, q.grow, q.upd, fun p hp => ?_, List.Nodup.sublist (List.Sublist.cons_cons _ (List.singleton_sublist.mpr (List.mem_of_getElem? (i := 6) rfl))) q.nd, fun F hF => ?_⟩
    · rcases List.mem_cons.mp hp with rfl | hp
      · exact q.add _ (.head _)
      · rw [List.mem_singleton.mp hp]
        exact q.add _ (List.mem_of_getElem? (i := 7) rfl)
    rcases List.mem_cons.mp hF with rfl | hF
    · have z := q.fact _ (List.mem_of_getElem? (i := 6) rfl)
      exact ⟨z.1, z.2.1, z.2.2.1, z.2.2.2.1, fun h => nomatch h⟩
    rcases List.mem_cons.mp hF with rfl | hF
    · have z := q.fact _ (List.mem_of_getElem? (i := 13) rfl)
      exact ⟨z.1, z.2.1, z.2.2.1, z.2.2.2.1, fun h => nomatch h⟩
    cases hF
theorem n_op7 (w : World) (b bi : Bool) : Nd (wI w bi) b (cOpsI (wI w bi).params 7 (oX 7) (oT 7) (oS 7) (oL 7)) := fun {ix} I =>
  Node.weak (n_ops w b bi (ix := ix) ⟨I.1, I.2⟩) ⟨rfl, rfl, rfl, rfl, rfl, rfl, rfl, rfl⟩ fun x h h' q => by
    refine ⟨(x.1, x.2.1, opY x.2.2 7), rfl, rfl, q.keep, q.size, q.grow, q.upd, fun p hp => ?_, List.Nodup.sublist (List.Sublist.cons_cons _ (List.singleton_sublist.mpr (List.mem_of_getElem? (i := 7) rfl))) q.nd, fun F hF => ?_⟩
    · rcases List.mem_cons.mp hp with rfl | hp
      · exact q.add _ (.head _)
      · rw [List.mem_singleton.mp hp]
        exact q.add _ (List.mem_of_getElem? (i := 8) rfl)
    rcases List.mem_cons.mp hF with rfl | hF
    · have z := q.fact _ (List.mem_of_getElem? (i := 7) rfl)
      exact ⟨z.1, z.2.1, z.2.2.1, z.2.2.2.1, fun h => nomatch h⟩
    cases hF
theorem n_op8 (w : World) (b bi : Bool) : Nd (wI w bi) b (cOpsI (wI w bi).params 8 (oX 8) (oT 8) (oS 8) (oL 8)) := fun {ix} I =>
  Node.weak (n_ops w b bi (ix := ix) ⟨I.1, I.2⟩) ⟨rfl, rfl, rfl, rfl, rfl, rfl, rfl, rfl⟩ fun x h h' q => by
    refine ⟨(x.1, x.2.1, opY x.2.2 8), rfl, rfl, q.keep, q.size, q.grow, q.upd, fun p hp => ?_, List.Nodup.sublist (List.Sublist.cons_cons _ (List.singleton_sublist.mpr (List.mem_of_getElem? (i := 8) rfl))) q.nd, fun F hF => ?_⟩
    · rcases List.mem_cons.mp hp with rfl | hp
      · exact q.add _ (.head _)
      · rw [List.mem_singleton.mp hp]
        exact q.add _ (List.mem_of_getElem? (i := 9) rfl)
    rcases List.mem_cons.mp hF with rfl | hF
    · have z := q.fact _ (List.mem_of_getElem? (i := 8) rfl)
      exact ⟨z.1, z.2.1, z.2.2.1, z.2.2.2.1, fun h => nomatch h⟩
    cases hF
theorem n_op9 (w : World) (b bi : Bool) : Nd (wI w bi) b (cOpsI (wI w bi).params 9 (oX 9) (oT 9) (oS 9) (oL 9)) := fun {ix} I =>
  Node.weak (n_ops w b bi (ix := ix) ⟨I.1, I.2⟩) ⟨rfl, rfl, rfl, rfl, rfl, rfl, rfl, rfl⟩ fun x h h' q => by
    refine ⟨(x.1, x.2.1, opY x.2.2 9), rfl, rfl, q.keep, q.size, q.grow, q.upd, fun p hp => ?_, List.Nodup.sublist (List.Sublist.cons_cons _ (List.singleton_sublist.mpr (List.mem_of_getElem? (i := 9) rfl))) q.nd, fun F hF => ?_⟩
    · rcases List.mem_cons.mp hp with rfl | hp
      · exact q.add _ (.head _)
      · rw [List.mem_singleton.mp hp]
        exact q.add _ (List.mem_of_getElem? (i := 10) rfl)
    rcases List.mem_cons.mp hF with rfl | hF
    · have z := q.fact _ (List.mem_of_getElem? (i := 9) rfl)
      exact ⟨z.1, z.2.1, z.2.2.1, z.2.2.2.1, fun h => nomatch h⟩
    rcases List.mem_cons.mp hF with rfl | hF
    · have z := q.fact _ (List.mem_of_getElem? (i := 14) rfl)
      exact ⟨z.1, z.2.1, z.2.2.1, z.2.2.2.1, fun h => nomatch h⟩
    cases hF
theorem n_op10 (w : World) (b bi : Bool) : Nd (wI w bi) b (cOpsI (wI w bi).params 10 (oX 10) (oT 10) (oS 10) (oL 10)) := fun {ix} I =>
  Node.weak (n_ops w b bi (ix := ix) ⟨I.1, I.2⟩) ⟨rfl, rfl, rfl, rfl, rfl, rfl, rfl, rfl⟩ fun x h h' q => by
    refine ⟨(x.1, x.2.1, opY x.2.2 10), rfl, rfl, q.keep, q.size, q.grow, q.upd, fun p hp => ?_, List.Nodup.sublist (List.Sublist.cons_cons _ (List.singleton_sublist.mpr (List.mem_of_getElem? (i := 10) rfl))) q.nd, fun F hF => ?_⟩
    · rcases List.mem_cons.mp hp with rfl | hp
      · exact q.add _ (.head _)
      · rw [List.mem_singleton.mp hp]
        exact q.add _ (List.mem_of_getElem? (i := 11) rfl)
    rcases List.mem_cons.mp hF with rfl | hF
    · have z := q.fact _ (List.mem_of_getElem? (i := 10) rfl)
      exact ⟨z.1, z.2.1, z.2.2.1, z.2.2.2.1, fun h => nomatch h⟩
    rcases List.mem_cons.mp hF with rfl | hF
    · have z := q.fact _ (List.mem_of_getElem? (i := 15) rfl)
      exact ⟨z.1, z.2.1, z.2.2.1, z.2.2.2.1, fun h => nomatch h⟩
    cases hF
theorem n_op11 (w : World) (b bi : Bool) : Nd (wI w bi) b (cOpsI (wI w bi).params 11 (oX 11) (oT 11) (oS 11) (oL 11)) := fun {ix} I =>
  Node.weak (n_ops w b bi (ix := ix) ⟨I.1, I.2⟩) ⟨rfl, rfl, rfl, rfl, rfl, rfl, rfl, rfl⟩ fun x h h' q => by
    refine ⟨(x.1, x.2.1, opY x.2.2 11), rfl, rfl, q.keep, q.size, q.grow, q.upd, fun p hp => ?_, List.Nodup.sublist (List.Sublist.cons_cons _ (List.singleton_sublist.mpr (List.mem_of_getElem? (i := 11) rfl))) q.nd, fun F hF => ?_⟩
    · rcases List.mem_cons.mp hp with rfl | hp
      · exact q.add _ (.head _)
      · rw [List.mem_singleton.mp hp]
        exact q.add _ (List.mem_of_getElem? (i := 12) rfl)
    rcases List.mem_cons.mp hF with rfl | hF
    · have z := q.fact _ (List.mem_of_getElem? (i := 11) rfl)
      exact ⟨z.1, z.2.1, z.2.2.1, z.2.2.2.1, fun h => nomatch h⟩
    rcases List.mem_cons.mp hF with rfl | hF
    · have z := q.fact _ (List.mem_of_getElem? (i := 16) rfl)
      exact ⟨z.1, z.2.1, z.2.2.1, z.2.2.2.1, fun h => nomatch h⟩
    cases hF
theorem n_opsI (w : World) (b bi : Bool) (i : Nat) (hi : i < 12) : Nd (wI w bi) b (cOpsI (wI w bi).params i (oX i) (oT i) (oS i) (oL i)) := by
  have h : i = 0 ∨ i = 1 ∨ i = 2 ∨ i = 3 ∨ i = 4 ∨ i = 5 ∨ i = 6 ∨ i = 7 ∨ i = 8 ∨ i = 9 ∨ i = 10 ∨ i = 11 := by omega
  rcases h with rfl | rfl | rfl | rfl | rfl | rfl | rfl | rfl | rfl | rfl | rfl | rfl
  · exact fun {_} I => n_op0 w b bi I
  · exact fun {_} I => n_op1 w b bi I
  · exact fun {_} I => n_op2 w b bi I
  · exact fun {_} I => n_op3 w b bi I
  · exact fun {_} I => n_op4 w b bi I
  · exact fun {_} I => n_op5 w b bi I
  · exact fun {_} I => n_op6 w b bi I
  · exact fun {_} I => n_op7 w b bi I
  · exact fun {_} I => n_op8 w b bi I
  · exact fun {_} I => n_op9 w b bi I
  · exact fun {_} I => n_op10 w b bi I
  · exact fun {_} I => n_op11 w b bi I
noncomputable def fr2 (P : Params) (scr lk : Addr) (kk : Nat → Nat) : Obj := frO (dF P [("script", fun _ => .ref scr), ("links", fun _ => .ref lk)] kk (fun _ => 0))
noncomputable def fr4 (P : Params) (scr lk : Addr) (X : Str) (tr sh : Addr) (lf : Bool) (kk : Nat → Nat) (tt : Nat) : Obj :=
  frO (dF P [("script", fun _ => .ref scr), ("links", fun _ => .ref lk), ("text", fun t => .str X t), ("tree", fun _ => .ref tr), ("short", fun _ => .ref sh), ("is_left", fun _ => .bool lf)] kk (fun _ => tt))
structure Q4 where
  kk : Nat → Nat
  tt : Nat
  tr : Addr
  sh : Addr
  tc : Nat
  lo : Nat
  hi : Nat
theorem p_p1_l (w : World) (b bi : Bool) (L scr lk pen s2 : Addr) (vs : List Value) (xs : List (Int × Nat)) (n2 c : Nat) (sm : Int) (tc ts : Nat) (kk : Nat → Nat) (i : Nat) (X : Str) (TA TS : Tr) (ho : Nd (wI w bi) b (cOpsI (wP w bi) i X TA TS true)) (hv : vs = intL xs) (hx : xs.length < 100) (hc : c < 40) (hi : i < 12) (hp : pickV xs sm c 12 = i) (B T : Nat) : PV (parF (wI w bi) b 690 9000) fun l => ∃ q : Q4, Same (cutBT (parF (wI w bi) b 690 9000) L 2 4 171 (Kk [Kbn,128,Kay,Kaj,Kdt,130,Kav,Kgy,131,Ket,131,Ket,131,Ket,131,Kbw,Kgf,Kgf,134,Ket,Khs,Kbf,Kbf,255]) l ⟨[⟨L, fr2 (wP w bi) scr lk kk, true⟩, ⟨Nat.succ L, cellO (.ref pen), false⟩, ⟨pen, penO s2 c sm tc ts 0, true⟩, ⟨s2, listN vs n2, false⟩], B, T, []⟩ 4 [9, 11] [] ([(L, fr4 (wP w bi) scr lk X q.tr q.sh true q.kk q.tt), (pen, penO s2 (c + 1) sm q.tc ts 0)]) ([]) ([treeF (wP w bi) q.lo q.hi (.ref q.tr) TA, treeF (wP w bi) q.lo q.hi (.ref q.sh) TS])) := pv (vf (cOpsI (wP w bi) i X TA TS true) [] ho rfl fun x1 => vf (cPick pen s2 vs n2 0 c sm tc ts ((Nat.succ 11 : Nat) : Int) (i : Nat)) [4, 5] (n_pick (wI w bi) b _ _ xs _ _ _ _ _ _ _ _ _ hv hx hc hp) rfl fun x2 => vf (cGetL (x1.2.2 0) (opR x1.2.2 i) (x1.2.2 50) i (.ref (x1.2.2 13))) [0] (n_getL (wI w bi) b _ _ _ _ _ (by omega) (opR_get _ _ hi)) rfl fun x3 => ve) fun x1 x2 x3 => ⟨⟨natAt [(kk 0), (kk 1), x3.2.1, (x3.2.1 + 1), (x3.2.1 + 2), (x3.2.1 + 4)], x1.2.2 14, x1.2.2 15, x1.2.2 16, (x2.2.2 1), x1.2.2 49, x1.1⟩, by cases b <;> rfl'⟩
theorem p_p1_n (w : World) (b bi : Bool) (L scr lk pen s2 : Addr) (vs : List Value) (xs : List (Int × Nat)) (n2 c : Nat) (sm : Int) (tc ts : Nat) (kk : Nat → Nat) (i : Nat) (X : Str) (TA TS : Tr) (ho : Nd (wI w bi) b (cOpsI (wP w bi) i X TA TS false)) (hv : vs = intL xs) (hx : xs.length < 100) (hc : c < 40) (hi : i < 12) (hp : pickV xs sm c 12 = i) (B T : Nat) : PV (parF (wI w bi) b 690 9000) fun l => ∃ q : Q4, Same (cutBT (parF (wI w bi) b 690 9000) L 2 4 171 (Kk [Kbn,128,Kay,Kaj,Kdt,130,Kav,Kgy,131,Ket,131,Ket,131,Ket,131,Kbw,Kgf,Kgf,134,Ket,Khs,Kbf,Kbf,255]) l ⟨[⟨L, fr2 (wP w bi) scr lk kk, true⟩, ⟨Nat.succ L, cellO (.ref pen), false⟩, ⟨pen, penO s2 c sm tc ts 0, true⟩, ⟨s2, listN vs n2, false⟩], B, T, []⟩ 4 [9, 11] [] ([(L, fr4 (wP w bi) scr lk X q.tr q.tr false q.kk q.tt), (pen, penO s2 (c + 1) sm q.tc ts 0)]) ([]) ([treeF (wP w bi) q.lo q.hi (.ref q.tr) TA])) := pv (vf (cOpsI (wP w bi) i X TA TS false) [] ho rfl fun x1 => vf (cPick pen s2 vs n2 0 c sm tc ts ((Nat.succ 11 : Nat) : Int) (i : Nat)) [4, 5] (n_pick (wI w bi) b _ _ xs _ _ _ _ _ _ _ _ _ hv hx hc hp) rfl fun x2 => vf (cGetL (x1.2.2 0) (opR x1.2.2 i) (x1.2.2 50) i (.ref (x1.2.2 13))) [0] (n_getL (wI w bi) b _ _ _ _ _ (by omega) (opR_get _ _ hi)) rfl fun x3 => ve) fun x1 x2 x3 => ⟨⟨natAt [(kk 0), (kk 1), x3.2.1, (x3.2.1 + 1), (x3.2.1 + 2), (x3.2.1 + 4)], x1.2.2 14, x1.2.2 15, x1.2.2 15, (x2.2.2 1), x1.2.2 49, x1.1⟩, by cases b <;> rfl'⟩
noncomputable def sel (m a b c : Nat) : Nat := match m with | 0 => a | 1 => b | _ => c
noncomputable def fmS (m : Nat) : Str := match m with | 0 => Z "x" | 1 => Z "x . y" | _ => Z "x [ y ]"
theorem sel_ref {m : Nat} (a b c : Nat) (h : m < 3) : [Value.ref a, .ref b, .ref c][m]? = some (.ref (sel m a b c)) := by
  have : m = 0 ∨ m = 1 ∨ m = 2 := by omega
  rcases this with rfl | rfl | rfl <;> rfl
theorem sel_str {m : Nat} (a b c : Nat) (h : m < 3) : [Value.str (Z "x") a, .str (Z "x . y") b, .str (Z "x [ y ]") c][m]? = some (.str (fmS m) (sel m a b c)) := by
  have : m = 0 ∨ m = 1 ∨ m = 2 := by omega
  rcases this with rfl | rfl | rfl <;> rfl
abbrev spS : Str := Z " "
noncomputable def lkX (m : Nat) (s X : Str) : Str := fmS m ++ spS ++ s ++ spS ++ X
noncomputable def fr5 (P : Params) (scr lk : Addr) (X : Str) (tr sh : Addr) (lf : Bool) (m : Nat) (s : Str) (tg : Addr) (kk vv : Nat → Nat) : Obj :=
  frO (dF P [("script", fun _ => .ref scr), ("links", fun _ => .ref lk), ("text", fun t => .str X t), ("tree", fun _ => .ref tr), ("short", fun _ => .ref sh), ("is_left", fun _ => .bool lf), ("form", fun t => .int (m : Nat) t), ("sign", fun t => .str s t), ("target", fun _ => .ref tg)] kk vv)
noncomputable def itO (z : Nat) (t : Nat → Nat) (m : Nat) (s : Str) (g : Nat) (tr sh : Addr) : List (Addr × Obj) :=
  [(z, listN [.str (Z "Name") (t 0), .str (Z "x") (t 1)] 0), (z + 3, listN [.str (Z "Member") (t 2), .ref (z + 2), .str (Z "y") (t 5)] 0), (z + 2, listN [.str (Z "Name") (t 3), .str (Z "x") (t 4)] 0),
   (z + 8, listN [.str (Z "Index") (t 6), .ref (z + 5), .ref (z + 7)] 0), (z + 5, listN [.str (Z "Name") (t 7), .str (Z "x") (t 8)] 0), (z + 7, listN [.str (Z "Name") (t 9), .str (Z "y") (t 10)] 0),
   (z + 11, listN [.str (Z "Assign") (t 11), .str s g, .ref (sel m z (z + 3) (z + 8)), .ref tr] 0), (z + 12, listN [.str (Z "Assign") (t 12), .str s g, .ref (sel m z (z + 3) (z + 8)), .ref sh] 0)]
noncomputable def itsO (t : Nat → Nat) : List (Nat × Str × Nat) → Nat → Nat → Addr → Addr → List (Addr × Obj)
  | [], _, _, _, _ => []
  | (m, s, g) :: l, z, j, tr, sh => itO z (fun i => t (13 * j + i)) m s g tr sh ++ itsO t l (z + 21) (j + 1) (z + 11) (z + 12)
structure Q5 where
  kk : Nat → Nat
  vv : Nat → Nat
  t : Nat → Nat
  z : Nat
theorem sg_len {s : Str} (h : s ∈ signsL) : s.length ≤ 4 := of_decide_eq_true (sg_all (p := fun s => decide (s.length ≤ 4)) (by decide) h)
theorem str_app (x y : Str) : (x ++ y).length = x.length + y.length := Array.size_append ..
theorem fm_len (m : Nat) : (fmS m).length ≤ 7 := by
  unfold fmS
  split <;> decide
theorem sp_len : spS.length = 1 := by decide
section
variable {m : Nat} {s X : Str} (hs : s ∈ signsL) (hX : X.length < 200)
include hs hX
theorem lk_a : (fmS m ++ spS).length ≤ sizeLine := by
  have := fm_len m; have := sp_len; have := sg_len hs; rw [PySem.sizeLine_eq, str_app]; omega
theorem lk_b : (fmS m ++ spS ++ s).length ≤ sizeLine := by
  have := fm_len m; have := sp_len; have := sg_len hs; rw [PySem.sizeLine_eq, str_app, str_app]; omega
theorem lk_c : (fmS m ++ spS ++ s ++ spS).length ≤ sizeLine := by
  have := fm_len m; have := sp_len; have := sg_len hs; rw [PySem.sizeLine_eq, str_app, str_app, str_app]; omega
theorem lk_d : (fmS m ++ spS ++ s ++ spS ++ X).length ≤ sizeLine := by
  have := fm_len m; have := sp_len; have := sg_len hs; rw [PySem.sizeLine_eq, str_app, str_app, str_app, str_app]; omega
theorem lkX_len : (lkX m s X).length ≤ X.length + 13 := by
  have := fm_len m; have := sp_len; have := sg_len hs; unfold lkX; rw [str_app, str_app, str_app, str_app]; omega
end
theorem p_p2_1 (w : World) (b bi : Bool) (L scr lk : Addr) (X : Str) (tr sh : Addr) (lf : Bool) (kk : Nat → Nat) (tt ln : Nat) (m0 fm0 g0 ta0 : Nat) (s0 : Str) (hm0 : m0 < 3) (hs0 : s0 ∈ signsL) (hX0 : X.length < 200) (B T : Nat) : PV (parF (wI w bi) b 690 9000) fun l => ∃ q : Q5, Same (cutBT (parF (wI w bi) b 690 9000) L 4 5 371 (Kk [129,Kbi,Kai,Kaj,131,Kac,Kpo,Kco,Khv,Kbc,Kgy,135,Ket,135,Ket,135,Kbw,Kgn,Kju,Kju,146,Kaq,18688,Kdk,Kfp,147,Kac,16531,Kjg,Kjg,Kei,Kjr,Ket,Khs,Khp,Khp,Koz,Koz,150,Ker,19222,Kaf,255]) l ⟨[⟨L, fr4 (wP w bi) scr lk X tr sh lf kk tt, true⟩, ⟨lk, listN [.ref ta0] ln, false⟩, ⟨ta0, tupO [.int (m0 : Nat) fm0, .str s0 g0], false⟩], B, T, []⟩ 3 [26] [18, 15, 16, 10, 13, 11, 7, 6] ([(L, fr5 (wP w bi) scr lk (lkX m0 s0 X) (q.z + 18) (q.z + 19) lf m0 s0 (sel m0 (q.z + 7) (q.z + 10) (q.z + 15)) q.kk q.vv)]) (itsO q.t [(m0, s0, g0)] (q.z + 7) 0 tr sh) ([])) := pv (vf (cGetL (B + 16) [.ref (B + 7), .ref (B + 10), .ref (B + 15)] 0 m0 (.ref (sel m0 (B + 7) (B + 10) (B + 15)))) [0] (n_getL (wI w bi) b _ _ _ _ _ (by omega) (sel_ref _ _ _ hm0)) rfl fun x1 => vf (cGetL (B + 17) [.str (Z "x") (x1.2.1 + 1), .str (Z "x . y") (x1.2.1 + 2), .str (Z "x [ y ]") (x1.2.1 + 3)] 0 m0 (.str (fmS m0) (sel m0 (x1.2.1 + 1) (x1.2.1 + 2) (x1.2.1 + 3)))) [0] (n_getL (wI w bi) b _ _ _ _ _ (by omega) (sel_str _ _ _ hm0)) rfl fun x2 => vf (cAddS (fmS m0) (Z " ")) [] (n_addS (wI w bi) b _ _ (lk_a hs0 hX0)) rfl fun x3 => vf (cAddS (fmS m0 ++ (Z " ")) s0) [] (n_addS (wI w bi) b _ _ (lk_b hs0 hX0)) rfl fun x4 => vf (cAddS (fmS m0 ++ (Z " ") ++ s0) (Z " ")) [] (n_addS (wI w bi) b _ _ (lk_c hs0 hX0)) rfl fun x5 => vf (cAddS (fmS m0 ++ (Z " ") ++ s0 ++ (Z " ")) X) [] (n_addS (wI w bi) b _ _ (lk_d hs0 hX0)) rfl fun x6 => ve) fun x1 x2 x3 x4 x5 x6 => ⟨⟨natAt [(kk 0), (kk 1), (kk 2), (kk 3), (kk 4), (kk 5), (T + 2), (T + 3), x1.2.1], natAt [0, 0, (x6.2.2 0), 0, 0, 0, fm0, g0, 0], natAt [(T + 6), (T + 4), (T + 7), (T + 10), (T + 8), (T + 11), (T + 12), (T + 15), (T + 13), (T + 18), (T + 16), (x6.2.1 + 1), (x6.2.1 + 2)], B⟩, by cases b <;> rfl'⟩
theorem p_p2_2 (w : World) (b bi : Bool) (L scr lk : Addr) (X : Str) (tr sh : Addr) (lf : Bool) (kk : Nat → Nat) (tt ln : Nat) (m0 fm0 g0 ta0 m1 fm1 g1 ta1 : Nat) (s0 s1 : Str) (hm0 : m0 < 3) (hs0 : s0 ∈ signsL) (hX0 : (lkX m1 s1 X).length < 200) (hm1 : m1 < 3) (hs1 : s1 ∈ signsL) (hX1 : X.length < 200) (B T : Nat) : PV (parF (wI w bi) b 690 9000) fun l => ∃ q : Q5, Same (cutBT (parF (wI w bi) b 690 9000) L 4 5 685 (Kk [129,Kbi,Kai,Kaj,131,Kac,Kpo,Kco,Kef,Kcm,Kgy,136,Ket,136,Ket,136,Kbw,Kgn,Kju,Kju,146,Kaq,18688,Kdk,Kfp,147,Kac,16531,Kjg,Kjg,Kei,Kjr,Ket,Khs,Khp,Khp,Koz,Koz,150,Ker,0x13600d9b3658b16,Kgy,156,Ket,156,Ket,156,Kbw,Kmw,Kmw,Kju,Kju,167,Kaq,21376,Kri,Kfp,168,Kac,0x542850a00a8,Kim,21673,Ket,Khs,0x2015805cb972e,Krh,22059,Krh,Kaf,255]) l ⟨[⟨L, fr4 (wP w bi) scr lk X tr sh lf kk tt, true⟩, ⟨lk, listN [.ref ta0, .ref ta1] ln, false⟩, ⟨ta0, tupO [.int (m0 : Nat) fm0, .str s0 g0], false⟩, ⟨ta1, tupO [.int (m1 : Nat) fm1, .str s1 g1], false⟩], B, T, []⟩ 4 [47] [39, 36, 37, 31, 34, 32, 28, 27, 18, 15, 16, 10, 13, 11, 7, 6] ([(L, fr5 (wP w bi) scr lk (lkX m0 s0 (lkX m1 s1 X)) (q.z + 39) (q.z + 40) lf m0 s0 (sel m0 (q.z + 28) (q.z + 31) (q.z + 36)) q.kk q.vv)]) (itsO q.t [(m1, s1, g1), (m0, s0, g0)] (q.z + 7) 0 tr sh) ([])) := pv (vf (cGetL (B + 16) [.ref (B + 7), .ref (B + 10), .ref (B + 15)] 0 m1 (.ref (sel m1 (B + 7) (B + 10) (B + 15)))) [0] (n_getL (wI w bi) b _ _ _ _ _ (by omega) (sel_ref _ _ _ hm1)) rfl fun x1 => vf (cGetL (B + 17) [.str (Z "x") (x1.2.1 + 1), .str (Z "x . y") (x1.2.1 + 2), .str (Z "x [ y ]") (x1.2.1 + 3)] 0 m1 (.str (fmS m1) (sel m1 (x1.2.1 + 1) (x1.2.1 + 2) (x1.2.1 + 3)))) [0] (n_getL (wI w bi) b _ _ _ _ _ (by omega) (sel_str _ _ _ hm1)) rfl fun x2 => vf (cAddS (fmS m1) (Z " ")) [] (n_addS (wI w bi) b _ _ (lk_a hs1 hX1)) rfl fun x3 => vf (cAddS (fmS m1 ++ (Z " ")) s1) [] (n_addS (wI w bi) b _ _ (lk_b hs1 hX1)) rfl fun x4 => vf (cAddS (fmS m1 ++ (Z " ") ++ s1) (Z " ")) [] (n_addS (wI w bi) b _ _ (lk_c hs1 hX1)) rfl fun x5 => vf (cAddS (fmS m1 ++ (Z " ") ++ s1 ++ (Z " ")) X) [] (n_addS (wI w bi) b _ _ (lk_d hs1 hX1)) rfl fun x6 => vf (cGetL (B + 37) [.ref (B + 28), .ref (B + 31), .ref (B + 36)] 0 m0 (.ref (sel m0 (B + 28) (B + 31) (B + 36)))) [0] (n_getL (wI w bi) b _ _ _ _ _ (by omega) (sel_ref _ _ _ hm0)) rfl fun x7 => vf (cGetL (B + 38) [.str (Z "x") (x7.2.1 + 1), .str (Z "x . y") (x7.2.1 + 2), .str (Z "x [ y ]") (x7.2.1 + 3)] 0 m0 (.str (fmS m0) (sel m0 (x7.2.1 + 1) (x7.2.1 + 2) (x7.2.1 + 3)))) [0] (n_getL (wI w bi) b _ _ _ _ _ (by omega) (sel_str _ _ _ hm0)) rfl fun x8 => vf (cAddS (fmS m0) (Z " ")) [] (n_addS (wI w bi) b _ _ (lk_a hs0 hX0)) rfl fun x9 => vf (cAddS (fmS m0 ++ (Z " ")) s0) [] (n_addS (wI w bi) b _ _ (lk_b hs0 hX0)) rfl fun x10 => vf (cAddS (fmS m0 ++ (Z " ") ++ s0) (Z " ")) [] (n_addS (wI w bi) b _ _ (lk_c hs0 hX0)) rfl fun x11 => vf (cAddS (fmS m0 ++ (Z " ") ++ s0 ++ (Z " ")) (lkX m1 s1 X)) [] (n_addS (wI w bi) b _ _ (lk_d hs0 hX0)) rfl fun x12 => ve) fun x1 x2 x3 x4 x5 x6 x7 x8 x9 x10 x11 x12 => ⟨⟨natAt [(kk 0), (kk 1), (kk 2), (kk 3), (kk 4), (kk 5), (T + 2), (T + 3), x1.2.1], natAt [0, 0, (x12.2.2 0), 0, 0, 0, fm0, g0, 0], natAt [(T + 6), (T + 4), (T + 7), (T + 10), (T + 8), (T + 11), (T + 12), (T + 15), (T + 13), (T + 18), (T + 16), (x6.2.1 + 1), (x6.2.1 + 2), (x6.2.1 + 9), (x6.2.1 + 7), (x6.2.1 + 10), (x6.2.1 + 13), (x6.2.1 + 11), (x6.2.1 + 14), (x6.2.1 + 15), (x6.2.1 + 18), (x6.2.1 + 16), (x6.2.1 + 21), (x6.2.1 + 19), (x12.2.1 + 1), (x12.2.1 + 2)], B⟩, by cases b <;> rfl'⟩
theorem p_p2_3 (w : World) (b bi : Bool) (L scr lk : Addr) (X : Str) (tr sh : Addr) (lf : Bool) (kk : Nat → Nat) (tt ln : Nat) (m0 fm0 g0 ta0 m1 fm1 g1 ta1 m2 fm2 g2 ta2 : Nat) (s0 s1 s2 : Str) (hm0 : m0 < 3) (hs0 : s0 ∈ signsL) (hX0 : (lkX m1 s1 (lkX m2 s2 X)).length < 200) (hm1 : m1 < 3) (hs1 : s1 ∈ signsL) (hX1 : (lkX m2 s2 X).length < 200) (hm2 : m2 < 3) (hs2 : s2 ∈ signsL) (hX2 : X.length < 200) (B T : Nat) : PV (parF (wI w bi) b 690 9000) fun l => ∃ q : Q5, Same (cutBT (parF (wI w bi) b 690 9000) L 4 5 999 (Kk [129,Kbi,Kai,Kaj,131,Kac,Kpo,Kco,Kdr,Kdv,Kgy,137,Ket,137,Ket,137,Kbw,Kgn,Kju,Kju,146,Kaq,18688,Kdk,Kfp,147,Kac,16531,Kjg,Kjg,Kei,Kjr,Ket,Khs,Khp,Khp,Koz,Koz,150,Ker,0x258b16,Kmw,156,Kqb,Kgy,157,Ket,157,Ket,157,Kbw,Kmw,Kmw,Kju,Kju,167,Kaq,21376,Kri,Kfp,168,Kac,0x542850a00a8,Kim,21673,Ket,Khs,0x2015805cb972e,Krh,22059,Krh,0x580060c182b,Kgy,177,Ket,177,Ket,177,Kbw,0x162c58b1,Kju,Kju,188,Kaq,0x17af1e00,Kfp,189,Kac,0x5f3e7cf5ebd7af40bd,Ket,Khs,0xc081060408002000870e1c3,Kaf,255]) l ⟨[⟨L, fr4 (wP w bi) scr lk X tr sh lf kk tt, true⟩, ⟨lk, listN [.ref ta0, .ref ta1, .ref ta2] ln, false⟩, ⟨ta0, tupO [.int (m0 : Nat) fm0, .str s0 g0], false⟩, ⟨ta1, tupO [.int (m1 : Nat) fm1, .str s1 g1], false⟩, ⟨ta2, tupO [.int (m2 : Nat) fm2, .str s2 g2], false⟩], B, T, []⟩ 5 [68] [60, 57, 58, 52, 55, 53, 49, 48, 39, 36, 37, 31, 34, 32, 28, 27, 18, 15, 16, 10, 13, 11, 7, 6] ([(L, fr5 (wP w bi) scr lk (lkX m0 s0 (lkX m1 s1 (lkX m2 s2 X))) (q.z + 60) (q.z + 61) lf m0 s0 (sel m0 (q.z + 49) (q.z + 52) (q.z + 57)) q.kk q.vv)]) (itsO q.t [(m2, s2, g2), (m1, s1, g1), (m0, s0, g0)] (q.z + 7) 0 tr sh) ([])) := pv (vf (cGetL (B + 16) [.ref (B + 7), .ref (B + 10), .ref (B + 15)] 0 m2 (.ref (sel m2 (B + 7) (B + 10) (B + 15)))) [0] (n_getL (wI w bi) b _ _ _ _ _ (by omega) (sel_ref _ _ _ hm2)) rfl fun x1 => vf (cGetL (B + 17) [.str (Z "x") (x1.2.1 + 1), .str (Z "x . y") (x1.2.1 + 2), .str (Z "x [ y ]") (x1.2.1 + 3)] 0 m2 (.str (fmS m2) (sel m2 (x1.2.1 + 1) (x1.2.1 + 2) (x1.2.1 + 3)))) [0] (n_getL (wI w bi) b _ _ _ _ _ (by omega) (sel_str _ _ _ hm2)) rfl fun x2 => vf (cAddS (fmS m2) (Z " ")) [] (n_addS (wI w bi) b _ _ (lk_a hs2 hX2)) rfl fun x3 => vf (cAddS (fmS m2 ++ (Z " ")) s2) [] (n_addS (wI w bi) b _ _ (lk_b hs2 hX2)) rfl fun x4 => vf (cAddS (fmS m2 ++ (Z " ") ++ s2) (Z " ")) [] (n_addS (wI w bi) b _ _ (lk_c hs2 hX2)) rfl fun x5 => vf (cAddS (fmS m2 ++ (Z " ") ++ s2 ++ (Z " ")) X) [] (n_addS (wI w bi) b _ _ (lk_d hs2 hX2)) rfl fun x6 => vf (cGetL (B + 37) [.ref (B + 28), .ref (B + 31), .ref (B + 36)] 0 m1 (.ref (sel m1 (B + 28) (B + 31) (B + 36)))) [0] (n_getL (wI w bi) b _ _ _ _ _ (by omega) (sel_ref _ _ _ hm1)) rfl fun x7 => vf (cGetL (B + 38) [.str (Z "x") (x7.2.1 + 1), .str (Z "x . y") (x7.2.1 + 2), .str (Z "x [ y ]") (x7.2.1 + 3)] 0 m1 (.str (fmS m1) (sel m1 (x7.2.1 + 1) (x7.2.1 + 2) (x7.2.1 + 3)))) [0] (n_getL (wI w bi) b _ _ _ _ _ (by omega) (sel_str _ _ _ hm1)) rfl fun x8 => vf (cAddS (fmS m1) (Z " ")) [] (n_addS (wI w bi) b _ _ (lk_a hs1 hX1)) rfl fun x9 => vf (cAddS (fmS m1 ++ (Z " ")) s1) [] (n_addS (wI w bi) b _ _ (lk_b hs1 hX1)) rfl fun x10 => vf (cAddS (fmS m1 ++ (Z " ") ++ s1) (Z " ")) [] (n_addS (wI w bi) b _ _ (lk_c hs1 hX1)) rfl fun x11 => vf (cAddS (fmS m1 ++ (Z " ") ++ s1 ++ (Z " ")) (lkX m2 s2 X)) [] (n_addS (wI w bi) b _ _ (lk_d hs1 hX1)) rfl fun x12 => vf (cGetL (B + 58) [.ref (B + 49), .ref (B + 52), .ref (B + 57)] 0 m0 (.ref (sel m0 (B + 49) (B + 52) (B + 57)))) [0] (n_getL (wI w bi) b _ _ _ _ _ (by omega) (sel_ref _ _ _ hm0)) rfl fun x13 => vf (cGetL (B + 59) [.str (Z "x") (x13.2.1 + 1), .str (Z "x . y") (x13.2.1 + 2), .str (Z "x [ y ]") (x13.2.1 + 3)] 0 m0 (.str (fmS m0) (sel m0 (x13.2.1 + 1) (x13.2.1 + 2) (x13.2.1 + 3)))) [0] (n_getL (wI w bi) b _ _ _ _ _ (by omega) (sel_str _ _ _ hm0)) rfl fun x14 => vf (cAddS (fmS m0) (Z " ")) [] (n_addS (wI w bi) b _ _ (lk_a hs0 hX0)) rfl fun x15 => vf (cAddS (fmS m0 ++ (Z " ")) s0) [] (n_addS (wI w bi) b _ _ (lk_b hs0 hX0)) rfl fun x16 => vf (cAddS (fmS m0 ++ (Z " ") ++ s0) (Z " ")) [] (n_addS (wI w bi) b _ _ (lk_c hs0 hX0)) rfl fun x17 => vf (cAddS (fmS m0 ++ (Z " ") ++ s0 ++ (Z " ")) (lkX m1 s1 (lkX m2 s2 X))) [] (n_addS (wI w bi) b _ _ (lk_d hs0 hX0)) rfl fun x18 => ve) fun x1 x2 x3 x4 x5 x6 x7 x8 x9 x10 x11 x12 x13 x14 x15 x16 x17 x18 => ⟨⟨natAt [(kk 0), (kk 1), (kk 2), (kk 3), (kk 4), (kk 5), (T + 2), (T + 3), x1.2.1], natAt [0, 0, (x18.2.2 0), 0, 0, 0, fm0, g0, 0], natAt [(T + 6), (T + 4), (T + 7), (T + 10), (T + 8), (T + 11), (T + 12), (T + 15), (T + 13), (T + 18), (T + 16), (x6.2.1 + 1), (x6.2.1 + 2), (x6.2.1 + 9), (x6.2.1 + 7), (x6.2.1 + 10), (x6.2.1 + 13), (x6.2.1 + 11), (x6.2.1 + 14), (x6.2.1 + 15), (x6.2.1 + 18), (x6.2.1 + 16), (x6.2.1 + 21), (x6.2.1 + 19), (x12.2.1 + 1), (x12.2.1 + 2), (x12.2.1 + 9), (x12.2.1 + 7), (x12.2.1 + 10), (x12.2.1 + 13), (x12.2.1 + 11), (x12.2.1 + 14), (x12.2.1 + 15), (x12.2.1 + 18), (x12.2.1 + 16), (x12.2.1 + 21), (x12.2.1 + 19), (x18.2.1 + 1), (x18.2.1 + 2)], B⟩, by cases b <;> rfl'⟩
end
section
open PySem PySem.Builtin PySem.Builtin.Str PySem.W PySem.W.X PyProof.Rows PySem.Calls PySem.Spec
theorem noneB {P : Params} {h : Heap} (e : h.get? cStatics = some (o2 P)) : NoneBooked h := by
  refine ⟨fun n => nsFind #[eS P "type.__subclasses__.Exception.0" 858 (vI 359 0), eS P "type.__subclasses__.Exception.n" 859 (vI 1 0)] n, ⟨o2 P, _, _, e, rfl, fun x hx => ?_, fun _ => rfl⟩, ?_⟩
  · simp only [List.mem_toArray, List.mem_cons, List.not_mem_nil, or_false] at hx
    rcases hx with rfl | rfl <;> exact ⟨_, _, rfl⟩
  · rfl'
noncomputable def cRepl (x y z : Str) (u v : Nat) : Cn := cVal (fun f => bcall "str.replace" [.str x (f 0), .str y u, .str z v]) fun t => .str (Txt.replace x y z) (t 0)
theorem n_repl (w : World) (b : Bool) (x y z : Str) (u v : Nat) (hu : u ≠ 0) (hv : v ≠ 0) (huv : u ≠ v) (hb : x.length + (x.length + 1) * z.length ≤ 16777216) : Nd w b (cRepl x y z u v) := fun {ix} I =>
  node_pure ⟨.nil, fun _ h => nomatch h⟩ I rfl rfl (fun _ => rfl) (fun _ => rfl) fun f A s R top _ hR => by
    have hl : tooLong (x.length + (occurrences x y 0 x.length (x.length + 1)).length * z.length) = false := by
      have h1 := StrLaws.occ_length_le x y 0 x.length (x.length + 1)
      have h2 : (occurrences x y 0 x.length (x.length + 1)).length * z.length ≤ (x.length + 1) * z.length := Nat.mul_le_mul_right _ h1
      unfold tooLong sizeLine
      exact decide_eq_false (by omega)
    refine codeAny_call_builtin PySem.F.slot_str_replace.plain PySem.F.entry_str_replace (PySem.F.slot_str_replace.check _ _ _ _ _ _ _ _ (typeIs_str s x (f 0)) (PySem.F.args_str_replace_3 _ _ _) (gives_str_replace2 x y z (f 0) u v (fun _ => ⟨by simp [hu, hv], by simp [huv], hl⟩) _ _ A R s (noneB (top _ _ (kt2 _))) ?_))
    have hq : ∀ t' k, R (okV (.str (Txt.replace x y z) t')) { s with toks := k } := fun t' k => hR (fun _ => t') k
    have hq' := hq
    unfold Txt.replace at hq'
    cases hc : ((occurrences x y 0 x.length (x.length + 1)).isEmpty || (y.length == 0 && z.length == 0))
    · rw [hc] at hq'
      simp only [Bool.false_eq_true, if_false] at hq' ⊢
      cases hyz : (y == z)
      · simp only [Bool.false_eq_true, if_false]
        exact ⟨fits_replaced y hb, hq' _ _⟩
      · simp only [if_true]
        have e : y = z := eq_of_beq hyz
        subst e
        rw [StrLaws.glued_between_self] at hq' ⊢
        dsimp only [Made.post]
        exact ⟨hq' (f 0) s.toks, by rw [PySem.sizeLine_eq]; omega, hq' _ _⟩
    · rw [hc] at hq'
      simp only [if_true] at hq' ⊢
      exact hq' (f 0) s.toks
noncomputable def rpS (e : Nat) : Str := match e with | 0 => Z "\n" | _ => Z " "
theorem rp_get {e : Nat} (a b : Nat) (h : e < 2) : [Value.str (Z "\n") a, .str (Z " ") b][e]? = some (.str (rpS e) (sel e a b b)) := by
  have : e = 0 ∨ e = 1 := by omega
  rcases this with rfl | rfl <;> rfl
theorem sel_ne {e a b u : Nat} (h1 : a ≠ u) (h2 : b ≠ u) : sel e a b b ≠ u := by
  unfold sel
  split <;> assumption
end
section
open PySem PySem.W PySem.W.X PyProof.Rows PySem.Calls PySem.Spec
abbrev zS : Str := Z "z , "
noncomputable def cmO (z : Nat) (t : Nat → Nat) (tr sh : Addr) : List (Addr × Obj) :=
  [(z + 3, listN [.str (Z "Comma") (t 0), .ref (z + 2)] 0), (z + 2, listN [.ref (z + 1), .ref tr] 0), (z + 1, listN [.str (Z "Name") (t 1), .str (Z "z") (t 2)] 0),
   (z + 7, listN [.str (Z "Comma") (t 3), .ref (z + 6)] 0), (z + 6, listN [.ref (z + 5), .ref sh] 0), (z + 5, listN [.str (Z "Name") (t 4), .str (Z "z") (t 5)] 0)]
theorem zX_len {X : Str} (h : X.length < 250) : (zS ++ X).length ≤ sizeLine := by
  have : zS.length = 4 := by decide
  rw [PySem.sizeLine_eq, str_app]; omega
theorem rpS_len (e : Nat) : (rpS e).length = 1 := by
  unfold rpS
  split <;> decide
theorem rp_len {X : Str} {e : Nat} (h : X.length < 260) : X.length + (X.length + 1) * (rpS e).length ≤ 16777216 := by
  rw [rpS_len]; omega
theorem rp_lenZ {X : Str} {e : Nat} (h : X.length < 250) : (zS ++ X).length + ((zS ++ X).length + 1) * (rpS e).length ≤ 16777216 := by
  have : zS.length = 4 := by decide
  rw [rpS_len, str_app]; omega
structure Q7 where
  kk : Nat → Nat
  vv : Nat → Nat
  tc : Nat
  t : Nat → Nat
  z : Nat
theorem p_p3_c (w : World) (b bi : Bool) (L scr lk pen s2 : Addr) (vs : List Value) (xs : List (Int × Nat)) (n2 c : Nat) (sm : Int) (tc ts : Nat) (X : Str) (tr sh : Addr) (lf : Bool) (m : Nat) (s : Str) (tg : Addr) (kk vv : Nat → Nat) (e : Nat) (hv : vs = intL xs) (hx : xs.length < 100) (hc : c < 39) (he : e < 2) (hX : X.length < 250) (hp : pickV xs sm c 2 = 1) (hp1 : pickV xs sm (c + 1) 2 = e) (B T : Nat) : PV (parF (wI w bi) b 690 9000) fun l => ∃ q : Q7, Same (cutBT (parF (wI w bi) b 690 9000) L 5 7 201 (Kk [Kav,Kaf,Kak,Kcw,131,Kcw,135,Ket,Kgc,Kco,Kge,Kcn,Kcn,Kjv,Kdp,Kfv,Kaf,Kcu,255]) l ⟨[⟨L, fr5 (wP w bi) scr lk X tr sh lf m s tg kk vv, true⟩, ⟨Nat.succ L, cellO (.ref pen), false⟩, ⟨pen, penO s2 c sm tc ts 0, true⟩, ⟨s2, listN vs n2, false⟩], B, T, []⟩ 4 [13, 15] [9, 10, 11, 5, 6, 7] ([(L, fr5 (wP w bi) scr lk (Txt.replace (Z "z , " ++ X) (Z " ") (rpS e)) (q.z + 3) (q.z + 7) lf m s tg q.kk q.vv), (pen, penO s2 (Nat.succ (Nat.succ c) : Nat) sm q.tc ts 0)]) (cmO q.z q.t tr sh) ([])) := pv (vf (cPick pen s2 vs n2 0 c sm tc ts ((Nat.succ 1 : Nat) : Int) 1) [2, 3] (n_pick (wI w bi) b _ _ xs _ _ _ _ _ _ _ _ _ hv hx (by omega) hp) rfl fun x1 => vf (cAddS (Z "z , ") X) [] (n_addS (wI w bi) b _ _ (zX_len hX)) rfl fun x2 => vf (cPick pen s2 vs n2 0 (Nat.succ c : Nat) sm (x1.2.2 1) ts ((Nat.succ 1 : Nat) : Int) (e : Nat)) [15, 16] (n_pick (wI w bi) b _ _ xs _ _ _ _ _ _ _ _ _ hv hx (by omega) hp1) rfl fun x3 => vf (cGetL (x1.1 + 12) [.str (Z "\n") (x2.2.1 + 12), .str (Z " ") (x2.2.1 + 13)] 0 e (.str (rpS e) (sel e (x2.2.1 + 12) (x2.2.1 + 13) (x2.2.1 + 13)))) [0] (n_getL (wI w bi) b _ _ _ _ _ (by omega) (rp_get _ _ he)) rfl fun x4 => vf (cRepl (Z "z , " ++ X) (Z " ") (rpS e) (x2.2.1.succ.succ.succ.succ.succ.succ.succ.succ.succ.succ.succ) (sel e (x2.2.fst + 12) (x2.2.fst + 13) (x2.2.fst + 13))) [] (n_repl (wI w bi) b _ _ _ _ _ (by omega) (sel_ne (by omega) (by omega)) (Ne.symm (sel_ne (by omega) (by omega))) (rp_lenZ hX)) rfl fun x5 => ve) fun x1 x2 x3 x4 x5 => ⟨⟨natAt [(kk 0), (kk 1), (kk 2), (kk 3), (kk 4), (kk 5), (kk 6), (kk 7), (kk 8)], natAt [0, 0, (x5.2.2 0), 0, 0, 0, (vv 6), (vv 7), 0], (x3.2.2 1), natAt [x2.2.1, (x2.2.1 + 3), (x2.2.1 + 1), (x2.2.1 + 4), (x2.2.1 + 7), (x2.2.1 + 5)], x1.1⟩, by cases b <;> rfl'⟩
theorem p_p3_n (w : World) (b bi : Bool) (L scr lk pen s2 : Addr) (vs : List Value) (xs : List (Int × Nat)) (n2 c : Nat) (sm : Int) (tc ts : Nat) (X : Str) (tr sh : Addr) (lf : Bool) (m : Nat) (s : Str) (tg : Addr) (kk vv : Nat → Nat) (e : Nat) (hv : vs = intL xs) (hx : xs.length < 100) (hc : c < 39) (he : e < 2) (hX : X.length < 250) (hp : pickV xs sm c 2 = 0) (hp1 : pickV xs sm (c + 1) 2 = e) (B T : Nat) : PV (parF (wI w bi) b 690 9000) fun l => ∃ q : Q7, Same (cutBT (parF (wI w bi) b 690 9000) L 5 7 56 (Kk [Kav,Kjp,Kai,Kfv,Kaf,Kan,255]) l ⟨[⟨L, fr5 (wP w bi) scr lk X tr sh lf m s tg kk vv, true⟩, ⟨Nat.succ L, cellO (.ref pen), false⟩, ⟨pen, penO s2 c sm tc ts 0, true⟩, ⟨s2, listN vs n2, false⟩], B, T, []⟩ 4 [1, 3] [] ([(L, fr5 (wP w bi) scr lk (Txt.replace X (Z " ") (rpS e)) tr sh lf m s tg q.kk q.vv), (pen, penO s2 (Nat.succ (Nat.succ c) : Nat) sm q.tc ts 0)]) ([]) ([])) := pv (vf (cPick pen s2 vs n2 0 c sm tc ts ((Nat.succ 1 : Nat) : Int) 0) [2, 3] (n_pick (wI w bi) b _ _ xs _ _ _ _ _ _ _ _ _ hv hx (by omega) hp) rfl fun x1 => vf (cPick pen s2 vs n2 0 (Nat.succ c : Nat) sm (x1.2.2 1) ts ((Nat.succ 1 : Nat) : Int) (e : Nat)) [3, 4] (n_pick (wI w bi) b _ _ xs _ _ _ _ _ _ _ _ _ hv hx (by omega) hp1) rfl fun x2 => vf (cGetL x1.1 [.str (Z "\n") (x1.2.1 + 2), .str (Z " ") (x1.2.1 + 3)] 0 e (.str (rpS e) (sel e (x1.2.1 + 2) (x1.2.1 + 3) (x1.2.1 + 3)))) [0] (n_getL (wI w bi) b _ _ _ _ _ (by omega) (rp_get _ _ he)) rfl fun x3 => vf (cRepl X (Z " ") (rpS e) (x1.2.1.succ) (sel e (x1.2.fst + 2) (x1.2.fst + 3) (x1.2.fst + 3))) [] (n_repl (wI w bi) b _ _ _ _ _ (by omega) (sel_ne (by omega) (by omega)) (Ne.symm (sel_ne (by omega) (by omega))) (rp_len (by omega))) rfl fun x4 => ve) fun x1 x2 x3 x4 => ⟨⟨natAt [(kk 0), (kk 1), (kk 2), (kk 3), (kk 4), (kk 5), (kk 6), (kk 7), (kk 8)], natAt [0, 0, (x4.2.2 0), 0, 0, 0, (vv 6), (vv 7), 0], (x2.2.2 1), natAt [], x1.1⟩, by cases b <;> rfl'⟩
noncomputable def fr8 (P : Params) (scr lk : Addr) (X : Str) (tr sh : Addr) (lf : Bool) (m : Nat) (s : Str) (tg rd : Addr) (kk vv : Nat → Nat) : Obj :=
  frO (dF P [("script", fun _ => .ref scr), ("links", fun _ => .ref lk), ("text", fun t => .str X t), ("tree", fun _ => .ref tr), ("short", fun _ => .ref sh), ("is_left", fun _ => .bool lf), ("form", fun t => .int (m : Nat) t), ("sign", fun t => .str s t), ("target", fun _ => .ref tg), ("can_in", fun _ => .bool false), ("due", fun _ => .ref sh), ("reader", fun _ => .ref rd)] kk vv)
structure Q8 where
  kk : Nat → Nat
  vv : Nat → Nat
  rd : Addr
  fs : List Fact
noncomputable def Reads (w : World) (b : Bool) (Y : Str) (kf : Tk) (can : Bool) (kE : Tk) (T : Tr) : Prop := ∀ (R : Rd) (a : Ca), R.P = w.params → R.tx = Y → Nd w b (cEx R (cuA 0 kf a) kE can T 260 1900)
noncomputable def valsX (x : XL) : List Value := (x.2.2.2 0).toList.filterMap id
noncomputable def rowsSpec (P : Params) (lo hi fx : Nat) (a : Addr) (T : Tr) (x : XL) : CSpec := { (cRowsA P lo hi fx a T).spec [] (x.1, x.2.1, x.2.2.1) with add := [(x.2.2.1 0, listN (valsX x) (x.2.2.1 2))] }
theorem n_rowsX (w : World) (b bi : Bool) {T : Tr} (h : RowOk T) (hd : T.dep ≤ 9) (hl : ∃ l, rowsOf T = .lst l) (lo hi fx : Nat) (a : Addr) : Node (par (wI w bi) b 0 0) 0 0 XL (rowsSpec (wI w bi).params lo hi fx a T) where
  ne := ⟨(0, 0, fun _ => 0, fun _ => #[])⟩
  same := by
    obtain ⟨code, pre, dl, ul, um, pf, fl, zq, a1, a2, a3, a4⟩ := (n_rows w b bi h hd lo hi fx a (ix := []) ⟨.nil, rfl⟩).same
    refine ⟨code, pre, dl, ul, um, pf, fl, zq, a1, a2, fun x => a3 (x.1, x.2.1, x.2.2.1), fun c A h0 g d tk os R b1 b2 b3 b4 b5 b6 b7 b8 b9 b10 b11 hR => a4 c A h0 g d tk os R b1 b2 b3 b4 b5 b6 b7 b8 b9 b10 b11 fun x h' q => ?_⟩
    have z := q.fact _ (.head _)
    obtain ⟨l, hl⟩ := hl
    have t : IsTree (wI w bi).params (x.2.2 1) x.1 h' (.ref (x.2.2 0)) (rowsOf T) := z.1
    rw [hl] at t
    cases t with
    | lst _ n vs ts e1 e2 o r =>
      have y : Post (rowsSpec (wI w bi).params lo hi fx a T (x.1, x.2.1, (fun j => match j with | 2 => n | j => x.2.2 j), fun _ => (vs.map some).toArray)) h0 h' := by
        refine ⟨q.keep, q.size, q.grow, q.upd, fun p hp => ?_, List.nodup_cons.mpr ⟨fun h => (nomatch h), .nil⟩, fun F hF => ?_⟩
        · rw [List.mem_singleton.mp hp]
          refine ⟨?_, Nat.le_trans z.2.2.1 e1⟩
          show h'.get? (x.2.2 0) = some (listN (((vs.map some).toArray).toList.filterMap id) n)
          rw [o]
          simp [List.filterMap_map]
        · have y := q.fact F hF
          exact ⟨y.1, y.2.1, y.2.2.1, y.2.2.2.1, fun h => nomatch h⟩
      exact hR _ h' y
theorem p_p4_l (w : World) (b bi : Bool) (L scr lk : Addr) (Y : Str) (tr sh lo hi lo2 hi2 : Addr) (m : Nat) (s : Str) (tg : Addr) (vt vh : List Value) (nt nh : Nat) (kk vv : Nat → Nat) (kf k1 k2 : Tk) (RT RS : Tr) (hI : Nd (wI w bi) b (cInit (wP w bi) Y kf)) (hE1 : Reads (wI w bi) b Y kf true (tE k1) RT) (hE2 : Reads (wI w bi) b Y kf false (tK k2 "in") RS) (ho1 : RowOk RT) (ho2 : RowOk RS) (hd1 : RT.dep ≤ 9) (hd2 : RS.dep ≤ 9) (hr1 : (rowsOf RT).dep ≤ 9) (hr2 : (rowsOf RS).dep ≤ 9) (hl1 : ∃ l, rowsOf RT = .lst l) (hl2 : ∃ l, rowsOf RS = .lst l) (B T : Nat) : PV (parF (wI w bi) b 690 9000) fun l => ∃ q : Q8, Same (cutBT (parF (wI w bi) b 690 9000) L 7 8 507 (Kk [Kks,Kac,Kpo,Kco,132,Kbp,132,Kgy,133,Ket,133,Ket,133,Kbw,Kjw,Kdv,Kbn,Kln,Kfu,Khb,18178,Kaf,Kne,146,Kac,145,Kdo,Kob,17028,Kaf,Keq,18560,Kob,Kbl,Kbp,133,Kbr,Khw,Kaa,141,Kpy,142,Kjv,Kfd,143,Kdp,Kgy,144,Ket,144,Ket,144,Kbw,Kjr,Kjr,Klu,Kbn,154,Kov,154,Kfu,Khb,19714,Kjp,0x27c09d,Kac,157,Kdo,Kob,17028,Kaf,Krl,Kqa,Kob,Kbl,Kbp,133,Kop,Krl,Kaa,16409,Khp,Kin,Khp,Kaf,255]) l ⟨[⟨L, fr5 (wP w bi) scr lk Y tr sh true m s tg kk vv, true⟩, ⟨tr, listN vt nt, false⟩, ⟨sh, listN vh nh, false⟩], B, T, [treeF (wP w bi) lo hi (.ref tr) (rowsOf RT), treeF (wP w bi) lo2 hi2 (.ref sh) (rowsOf RS)]⟩ 3 [30] [] ([(L, fr8 (wP w bi) scr lk Y tr sh true m s tg q.rd q.kk q.vv)]) ([]) (q.fs)) := pv (vf (cInit (wP w bi) Y kf) [] hI rfl fun x1 => vf (cEx (rdOf (wP w bi) Y x1.2.2) (cuA 0 kf (aY x1.2.2)) (tE k1) true RT 260 1900) [0, 1, 2, 3, 4, 5] (hE1 _ _ rfl rfl) rfl fun x2 => vx (rowsSpec (wP w bi) (x2.2.2 41) x2.1 0 (x2.2.2 29) RT) (n_rowsX w b bi ho1 hd1 hl1 _ _ _ _) fun x3 => vf (cNe (wP w bi) (wP w bi) (x3.2.2.1 1) x3.1 lo hi 0 2 (x3.2.2.1 0) tr (rowsOf RT)) [] (n_ne (wI w bi) b _ _ _ _ _ _ _ _ _ _ (rowT_rows _) hr1 hl1) rfl fun x4 => vf (cWord (rdOf (wP w bi) Y x1.2.2) (cuA 0 (tE k1) (aY x2.2.2)) (Z "in") false) [3, 4, 1, 2] (n_word0 (wI w bi) b _ _ _ (by rfl')) rfl fun x5 => vf (cStrEq (tE k1).kd (Z "end") true) [] (n_str_eq _ _ _ _ _ (by rfl')) rfl fun x6 => vf (cInit (wP w bi) Y kf) [] hI rfl fun x7 => vf (cEx (rdOf (wP w bi) Y x7.2.2) (cuA 0 kf (aY x7.2.2)) (tK k2 "in") false RS 260 1900) [0, 1, 2, 3, 4, 5] (hE2 _ _ rfl rfl) rfl fun x8 => vx (rowsSpec (wP w bi) (x8.2.2 41) x8.1 0 (x8.2.2 29) RS) (n_rowsX w b bi ho2 hd2 hl2 _ _ _ _) fun x9 => vf (cNe (wP w bi) (wP w bi) (x9.2.2.1 1) x9.1 lo2 hi2 0 5 (x9.2.2.1 0) sh (rowsOf RS)) [] (n_ne (wI w bi) b _ _ _ _ _ _ _ _ _ _ (rowT_rows _) hr2 hl2) rfl fun x10 => vf (cWord (rdOf (wP w bi) Y x7.2.2) (cuA 0 (tK k2 "in") (aY x8.2.2)) (Z "in") true) [3, 4, 1, 2] (n_word_true (wI w bi) b _ _ _ (by rfl') (by rfl')) rfl fun x11 => vf (cStrEq (tK k2 "in").kd (Z "end") false) [] (n_str_eq _ _ _ _ _ (by rfl')) rfl fun x12 => ve) fun x1 x2 x3 x4 x5 x6 x7 x8 x9 x10 x11 x12 => ⟨⟨natAt [(kk 0), (kk 1), (kk 2), (kk 3), (kk 4), (kk 5), (kk 6), (kk 7), (kk 8), T, (T + 1), x1.2.1], natAt [0, 0, (vv 2), 0, 0, 0, (vv 6), (vv 7), 0, 0, 0, 0], x7.2.2 41, [treeF (wP w bi) (x9.2.2.1 1) x9.1 (.ref (x9.2.2.1 0)) (rowsOf RS), treeF (wP w bi) (x8.2.2 41) x8.1 (.ref (x8.2.2 29)) RS, treeF (wP w bi) (x3.2.2.1 1) x3.1 (.ref (x3.2.2.1 0)) (rowsOf RT), treeF (wP w bi) (x2.2.2 41) x2.1 (.ref (x2.2.2 29)) RT, treeF (wP w bi) lo hi (.ref tr) (rowsOf RT), treeF (wP w bi) lo2 hi2 (.ref sh) (rowsOf RS)]⟩, by cases b <;> rfl'⟩
theorem p_p4_n (w : World) (b bi : Bool) (L scr lk : Addr) (Y : Str) (tr sh lo hi lo2 hi2 : Addr) (m : Nat) (s : Str) (tg : Addr) (vt vh : List Value) (nt nh : Nat) (kk vv : Nat → Nat) (kf k1 k2 : Tk) (RT RS : Tr) (hI : Nd (wI w bi) b (cInit (wP w bi) Y kf)) (hE1 : Reads (wI w bi) b Y kf true (tE k1) RT) (hE2 : Reads (wI w bi) b Y kf false (tE k2) RS) (ho1 : RowOk RT) (ho2 : RowOk RS) (hd1 : RT.dep ≤ 9) (hd2 : RS.dep ≤ 9) (hr1 : (rowsOf RT).dep ≤ 9) (hr2 : (rowsOf RS).dep ≤ 9) (hl1 : ∃ l, rowsOf RT = .lst l) (hl2 : ∃ l, rowsOf RS = .lst l) (B T : Nat) : PV (parF (wI w bi) b 690 9000) fun l => ∃ q : Q8, Same (cutBT (parF (wI w bi) b 690 9000) L 7 8 501 (Kk [Kks,Kac,Kpo,Kco,132,Kbp,132,Kgy,133,Ket,133,Ket,133,Kbw,Kjw,Kdv,Kbn,Kln,Kfu,Khb,18178,Kaf,Kne,146,Kac,145,Kdo,Kob,17028,Khw,Kod,Kob,Kbl,Kbp,133,Kbr,Khw,Kaa,141,Kpy,142,Kjv,Kfd,143,Kdp,Kgy,144,Ket,144,Ket,144,Kbw,Kjr,Kjr,Klu,Kbn,154,Kov,154,Kfu,Khb,19714,Kjp,0x27c09d,Kac,157,Kdo,Kob,17028,Kaf,157,Kqa,Kob,Kbl,Kbp,133,Kop,Krl,Kaa,16409,Khp,Kin,Khp,Kaf,255]) l ⟨[⟨L, fr5 (wP w bi) scr lk Y tr sh false m s tg kk vv, true⟩, ⟨tr, listN vt nt, false⟩, ⟨sh, listN vh nh, false⟩], B, T, [treeF (wP w bi) lo hi (.ref tr) (rowsOf RT), treeF (wP w bi) lo2 hi2 (.ref sh) (rowsOf RS)]⟩ 3 [30] [] ([(L, fr8 (wP w bi) scr lk Y tr sh false m s tg q.rd q.kk q.vv)]) ([]) (q.fs)) := pv (vf (cInit (wP w bi) Y kf) [] hI rfl fun x1 => vf (cEx (rdOf (wP w bi) Y x1.2.2) (cuA 0 kf (aY x1.2.2)) (tE k1) true RT 260 1900) [0, 1, 2, 3, 4, 5] (hE1 _ _ rfl rfl) rfl fun x2 => vx (rowsSpec (wP w bi) (x2.2.2 41) x2.1 0 (x2.2.2 29) RT) (n_rowsX w b bi ho1 hd1 hl1 _ _ _ _) fun x3 => vf (cNe (wP w bi) (wP w bi) (x3.2.2.1 1) x3.1 lo hi 0 2 (x3.2.2.1 0) tr (rowsOf RT)) [] (n_ne (wI w bi) b _ _ _ _ _ _ _ _ _ _ (rowT_rows _) hr1 hl1) rfl fun x4 => vf (cWord (rdOf (wP w bi) Y x1.2.2) (cuA 0 (tE k1) (aY x2.2.2)) (Z "in") false) [3, 4, 1, 2] (n_word0 (wI w bi) b _ _ _ (by rfl')) rfl fun x5 => vf (cStrEq (tE k1).kd (Z "end") true) [] (n_str_eq _ _ _ _ _ (by rfl')) rfl fun x6 => vf (cInit (wP w bi) Y kf) [] hI rfl fun x7 => vf (cEx (rdOf (wP w bi) Y x7.2.2) (cuA 0 kf (aY x7.2.2)) (tE k2) false RS 260 1900) [0, 1, 2, 3, 4, 5] (hE2 _ _ rfl rfl) rfl fun x8 => vx (rowsSpec (wP w bi) (x8.2.2 41) x8.1 0 (x8.2.2 29) RS) (n_rowsX w b bi ho2 hd2 hl2 _ _ _ _) fun x9 => vf (cNe (wP w bi) (wP w bi) (x9.2.2.1 1) x9.1 lo2 hi2 0 5 (x9.2.2.1 0) sh (rowsOf RS)) [] (n_ne (wI w bi) b _ _ _ _ _ _ _ _ _ _ (rowT_rows _) hr2 hl2) rfl fun x10 => vf (cWord (rdOf (wP w bi) Y x7.2.2) (cuA 0 (tE k2) (aY x8.2.2)) (Z "in") false) [3, 4, 1, 2] (n_word0 (wI w bi) b _ _ _ (by rfl')) rfl fun x11 => vf (cStrEq (tE k2).kd (Z "end") true) [] (n_str_eq _ _ _ _ _ (by rfl')) rfl fun x12 => ve) fun x1 x2 x3 x4 x5 x6 x7 x8 x9 x10 x11 x12 => ⟨⟨natAt [(kk 0), (kk 1), (kk 2), (kk 3), (kk 4), (kk 5), (kk 6), (kk 7), (kk 8), T, (T + 1), x1.2.1], natAt [0, 0, (vv 2), 0, 0, 0, (vv 6), (vv 7), 0, 0, 0, 0], x7.2.2 41, [treeF (wP w bi) (x9.2.2.1 1) x9.1 (.ref (x9.2.2.1 0)) (rowsOf RS), treeF (wP w bi) (x8.2.2 41) x8.1 (.ref (x8.2.2 29)) RS, treeF (wP w bi) (x3.2.2.1 1) x3.1 (.ref (x3.2.2.1 0)) (rowsOf RT), treeF (wP w bi) (x2.2.2 41) x2.1 (.ref (x2.2.2 29)) RT, treeF (wP w bi) lo hi (.ref tr) (rowsOf RT), treeF (wP w bi) lo2 hi2 (.ref sh) (rowsOf RS)]⟩, by cases b <;> rfl'⟩
noncomputable def cMulZ (z : Int) (k : Nat) : Cn := cVal (fun f => bcall "str.__mul__" [.str (Z "\n") (f 0), .int z (f 1)]) fun y => .str (nlS k) (y 0)
theorem n_mulZ (w : World) (b : Bool) (z : Int) (k : Nat) (h : k < 4) (hz : z = (k : Int)) : Nd w b (cMulZ z k) := by
  subst hz; exact n_mulN w b k h
theorem lt13 : ∀ j, j < 13 → j = 0 ∨ j = 1 ∨ j = 2 ∨ j = 3 ∨ j = 4 ∨ j = 5 ∨ j = 6 ∨ j = 7 ∨ j = 8 ∨ j = 9 ∨ j = 10 ∨ j = 11 ∨ j = 12 := by decide
theorem lt12 : ∀ i, i < 12 → i = 0 ∨ i = 1 ∨ i = 2 ∨ i = 3 ∨ i = 4 ∨ i = 5 ∨ i = 6 ∨ i = 7 ∨ i = 8 ∨ i = 9 ∨ i = 10 ∨ i = 11 := by decide
noncomputable def erS (s : Str) (j : Nat) : Str := match j with
  | 0 => Z "a " ++ s
  | 1 => Z "a ? b"
  | 2 => Z "a ? b :"
  | 3 => Z "( a"
  | 4 => Z "a [ b"
  | 5 => Z "f ( a ,"
  | 6 => Z "a ."
  | 7 => Z "new"
  | 8 => Z "typeof"
  | 9 => Z "[ a ,"
  | 10 => Z "a ,"
  | 11 => Z "a in"
  | _ => Z "a ||"
theorem er_get (s : Str) (t0 t1 t2 t3 t4 t5 t6 t7 t8 t9 t10 t11 t12 : Nat) {j : Nat} (h : j < 13) : [Value.str (Z "a " ++ s) t0, .str (Z "a ? b") t1, .str (Z "a ? b :") t2, .str (Z "( a") t3, .str (Z "a [ b") t4, .str (Z "f ( a ,") t5, .str (Z "a .") t6, .str (Z "new") t7, .str (Z "typeof") t8, .str (Z "[ a ,") t9, .str (Z "a ,") t10, .str (Z "a in") t11, .str (Z "a ||") t12][j]? = some (.str (erS s j) (natAt [t0, t1, t2, t3, t4, t5, t6, t7, t8, t9, t10, t11, t12] j)) := by
  have := lt13 j h
  rcases this with rfl | rfl | rfl | rfl | rfl | rfl | rfl | rfl | rfl | rfl | rfl | rfl | rfl <;> rfl
noncomputable def tgS (j : Nat) : Str := match j with
  | 0 => Z "f ( a )"
  | 1 => Z "( a + b )"
  | 2 => Z "- a"
  | 3 => Z "this"
  | 4 => Z "a ? b : c"
  | _ => Z "a ++"
theorem tg_get (t0 t1 t2 t3 t4 t5 : Nat) {j : Nat} (h : j < 6) : [Value.str (Z "f ( a )") t0, .str (Z "( a + b )") t1, .str (Z "- a") t2, .str (Z "this") t3, .str (Z "a ? b : c") t4, .str (Z "a ++") t5][j]? = some (.str (tgS j) (natAt [t0, t1, t2, t3, t4, t5] j)) := by
  have : j = 0 ∨ j = 1 ∨ j = 2 ∨ j = 3 ∨ j = 4 ∨ j = 5 := by omega
  rcases this with rfl | rfl | rfl | rfl | rfl | rfl <;> rfl
noncomputable def LineOk (w : World) (b : Bool) (tx : Str) (ln : Int) : Prop := ∀ (L1 L2 : Addr) {i1 i2 : Nat}, i1 ≠ i2 → Node (par w b 0 0) 0 0 XL (lineSpec tx ln L1 L2 300 2400 i1 i2)
noncomputable def lineX (tx : Str) (ln : Int) (L1 L2 : Addr) (ix : List Nat) (x : XL) : CSpec := lineSpec tx ln L1 L2 300 2400 (natAt ix 0) (natAt ix 1) x
theorem ad_len {x y : Str} {n m : Nat} (h : x.length ≤ n) (h2 : y.length ≤ m) (h3 : n + m ≤ 300) : (x ++ y).length ≤ sizeLine := by
  rw [PySem.sizeLine_eq, str_app]; omega
theorem nlS_len (k : Nat) : (nlS k).length = k := by
  show ((List.replicate k 10).toArray).size = k
  simp
theorem er_len {s : Str} (hs : s.length ≤ 4) (j : Nat) : (erS s j).length ≤ 8 := by
  unfold erS
  split <;> first | decide | (rw [str_app]; have : (Z "a ").length = 2 := by decide
                              omega)
theorem tg_len (j : Nat) : (tgS j).length ≤ 9 := by
  unfold tgS
  split <;> decide
theorem p_p5_c (w : World) (b bi : Bool) (L pen s2 : Addr) (oc : Value) (od : Option Addr) (es : Array DictEntry) (en : Nat) (so : Array (Option Value)) (vs : List Value) (xs : List (Int × Nat)) (n2 c : Nat) (sm : Int) (tc ts : Nat) (g1 j e q g2 : Nat) (s1 s3 : Str) (hv : vs = intL xs) (hx : xs.length < 100) (hc : c < 35) (hp0 : pickV xs sm (c + 0) 12 = g1) (hp1 : pickV xs sm (c + 1) 13 = j) (hp2 : pickV xs sm (c + 2) 4 = e) (hp3 : pickV xs sm (c + 3) 6 = q) (hp4 : pickV xs sm (c + 4) 12 = g2) (hg1 : signsL[g1]? = some s1) (hg2 : signsL[g2]? = some s3) (hj : j < 13) (he : e < 4) (hq : q < 6) (hk1 : g1 < 12) (hk2 : g2 < 12) (hs1 : s1.length ≤ 4) (hs3 : s3.length ≤ 4) (hd : Int.fdiv (e : Nat) 2 = ((e / 2 : Nat) : Int)) (hn : ((1 + (e : Nat) + Int.fdiv (e : Nat) 2 : Int) != 1 + (e : Nat) + Int.fdiv (e : Nat) 2) = false) (hl1 : LineOk (wI w bi) b (nlS e ++ erS s1 j ++ nlS (e / 2)) (1 + (e : Nat) + Int.fdiv (e : Nat) 2)) (ht : ((tgS q).cps.toList == (Z "a ? b : c").cps.toList) = true) (hl2 : LineOk (wI w bi) b (tgS q ++ nlS e ++ s3 ++ Z " b") 0) (B T : Nat) : PV (parF (wI w bi) b 690 9000) fun l => Same (cutCT (parF (wI w bi) b 690 9000) L 8 421 (Kk [Kkt,Kac,Kil,Kfv,Kny,Kbp,Kay,Kaj,128,Kqp,Kjw,Kdv,Kda,Kio,Kgh,136,Kdv,Kbn,Kcx,Kfv,Kab,Knu,Kfv,Kar,Kar,Khs,Kfd,Kfd,16527,Kfd,Kdp,143,Kak,143,Kbw,16527]) l ⟨[⟨L, ⟨oc, od, .dict es en, so⟩, true⟩, ⟨Nat.succ L, cellO (.ref pen), false⟩, ⟨pen, penO s2 c sm tc ts 0, true⟩, ⟨s2, listN vs n2, false⟩], B, T, []⟩ ((.ok (.ret (.bool true))))) := pv (vf (cPick pen s2 vs n2 0 ((c + 0 : Nat) : Int) sm tc ts ((Nat.succ 11 : Nat) : Int) (g1 : Nat)) [5, 6] (n_pick (wI w bi) b _ _ xs _ _ _ _ _ _ _ _ _ hv hx (by omega) hp0) rfl fun x1 => vf (cGetL (B + 2) (signVs (T + 2)) 0 g1 (.str s1 ((T + 2) + g1))) [0] (n_getL (wI w bi) b _ _ _ _ _ (by omega) (valsFrom_get hg1)) rfl fun x2 => vf (cAddS (Z "a ") s1) [] (n_addS (wI w bi) b _ _ (ad_len (n := 2) (m := 4) (by decide) hs1 (by decide))) rfl fun x3 => vf (cPick pen s2 vs n2 0 ((c + 1 : Nat) : Int) sm (x1.2.2 1) ts ((Nat.succ 12 : Nat) : Int) (j : Nat)) [6, 7] (n_pick (wI w bi) b _ _ xs _ _ _ _ _ _ _ _ _ hv hx (by omega) hp1) rfl fun x4 => vf (cGetL x1.1 [.str (Z "a " ++ s1) (x3.2.2 0), .str (Z "a ? b") x3.2.1, .str (Z "a ? b :") (x3.2.1 + 1), .str (Z "( a") (x3.2.1 + 2), .str (Z "a [ b") (x3.2.1 + 3), .str (Z "f ( a ,") (x3.2.1 + 4), .str (Z "a .") (x3.2.1 + 5), .str (Z "new") (x3.2.1 + 6), .str (Z "typeof") (x3.2.1 + 7), .str (Z "[ a ,") (x3.2.1 + 8), .str (Z "a ,") (x3.2.1 + 9), .str (Z "a in") (x3.2.1 + 10), .str (Z "a ||") (x3.2.1 + 11)] 0 j (.str (erS s1 j) (natAt [(x3.2.2 0), x3.2.1, (x3.2.1 + 1), (x3.2.1 + 2), (x3.2.1 + 3), (x3.2.1 + 4), (x3.2.1 + 5), (x3.2.1 + 6), (x3.2.1 + 7), (x3.2.1 + 8), (x3.2.1 + 9), (x3.2.1 + 10), (x3.2.1 + 11)] j))) [0] (n_getL (wI w bi) b _ _ _ _ _ (by omega) (er_get _ _ _ _ _ _ _ _ _ _ _ _ _ _ hj)) rfl fun x5 => vf (cPick pen s2 vs n2 0 ((c + 2 : Nat) : Int) sm (x4.2.2 1) ts ((Nat.succ 3 : Nat) : Int) (e : Nat)) [6, 7] (n_pick (wI w bi) b _ _ xs _ _ _ _ _ _ _ _ _ hv hx (by omega) hp2) rfl fun x6 => vf (cMulN e) [] (n_mulN (wI w bi) b _ he) rfl fun x7 => vf (cAddS (nlS e) (erS s1 j)) [] (n_addS (wI w bi) b _ _ (ad_len (n := 4) (m := 8) (by rw [nlS_len]; omega) (er_len hs1 j) (by decide))) rfl fun x8 => vf (cMulZ (Int.fdiv (e : Nat) 2) (e / 2)) [] (n_mulZ (wI w bi) b _ _ (by omega) hd) rfl fun x9 => vf (cAddS (nlS e ++ erS s1 j) (nlS (e / 2))) [] (n_addS (wI w bi) b _ _ (ad_len (n := 12) (m := 4) (by have := nlS_len e; have := er_len hs1 j; rw [str_app]; omega) (by rw [nlS_len]; omega) (by decide))) rfl fun x10 => vx (lineX (nlS e ++ erS s1 j ++ nlS (e / 2)) (1 + (e : Nat) + Int.fdiv (e : Nat) 2) B L [7, 8]) (hl1 _ _ (by decide)) fun x11 => vf (cNeI (1 + (e : Nat) + Int.fdiv (e : Nat) 2) (1 + (e : Nat) + Int.fdiv (e : Nat) 2) false) [] (n_neI (wI w bi) b _ _ _ hn) rfl fun x12 => vf (cPick pen s2 vs n2 0 ((c + 3 : Nat) : Int) sm (x6.2.2 1) ts ((Nat.succ 5 : Nat) : Int) (q : Nat)) [11, 12] (n_pick (wI w bi) b _ _ xs _ _ _ _ _ _ _ _ _ hv hx (by omega) hp3) rfl fun x13 => vf (cGetL x11.1 [.str (Z "f ( a )") x12.2.1, .str (Z "( a + b )") (x12.2.1 + 1), .str (Z "- a") (x12.2.1 + 2), .str (Z "this") (x12.2.1 + 3), .str (Z "a ? b : c") (x12.2.1 + 4), .str (Z "a ++") (x12.2.1 + 5)] 0 q (.str (tgS q) (natAt [x12.2.1, (x12.2.1 + 1), (x12.2.1 + 2), (x12.2.1 + 3), (x12.2.1 + 4), (x12.2.1 + 5)] q))) [0] (n_getL (wI w bi) b _ _ _ _ _ (by omega) (tg_get _ _ _ _ _ _ hq)) rfl fun x14 => vf (cPick pen s2 vs n2 0 ((c + 4 : Nat) : Int) sm (x13.2.2 1) ts ((Nat.succ 11 : Nat) : Int) (g2 : Nat)) [13, 14] (n_pick (wI w bi) b _ _ xs _ _ _ _ _ _ _ _ _ hv hx (by omega) hp4) rfl fun x15 => vf (cGetL (x13.1 + 1) (signVs x14.2.1) 0 g2 (.str s3 (x14.2.1 + g2))) [0] (n_getL (wI w bi) b _ _ _ _ _ (by omega) (valsFrom_get hg2)) rfl fun x16 => vf (cStrEq (tgS q) (Z "a ? b : c") true) [] (n_str_eq _ _ _ _ _ ht) rfl fun x17 => vf (cMulN e) [] (n_mulN (wI w bi) b _ he) rfl fun x18 => vf (cAddS (tgS q) (nlS e)) [] (n_addS (wI w bi) b _ _ (ad_len (n := 9) (m := 4) (tg_len q) (by rw [nlS_len]; omega) (by decide))) rfl fun x19 => vf (cAddS (tgS q ++ nlS e) s3) [] (n_addS (wI w bi) b _ _ (ad_len (n := 13) (m := 4) (by have := nlS_len e; have := tg_len q; rw [str_app]; omega) hs3 (by decide))) rfl fun x20 => vf (cAddS (tgS q ++ nlS e ++ s3) (Z " b")) [] (n_addS (wI w bi) b _ _ (ad_len (n := 17) (m := 2) (by have := nlS_len e; have := tg_len q; rw [str_app, str_app]; omega) (by decide) (by decide))) rfl fun x21 => vx (lineX (tgS q ++ nlS e ++ s3 ++ Z " b") 0 B L [14, 15]) (hl2 _ _ (by decide)) fun x22 => vf (cEqI 0 0 true) [] (n_eqI _ _ _ _ _ (decide_eq_true rfl)) rfl fun x23 => ve) fun x1 x2 x3 x4 x5 x6 x7 x8 x9 x10 x11 x12 x13 x14 x15 x16 x17 x18 x19 x20 x21 x22 x23 => by
  show Same _
  cases b <;> rfl'
theorem p_p5_n (w : World) (b bi : Bool) (L pen s2 : Addr) (oc : Value) (od : Option Addr) (es : Array DictEntry) (en : Nat) (so : Array (Option Value)) (vs : List Value) (xs : List (Int × Nat)) (n2 c : Nat) (sm : Int) (tc ts : Nat) (g1 j e q g2 : Nat) (s1 s3 : Str) (hv : vs = intL xs) (hx : xs.length < 100) (hc : c < 35) (hp0 : pickV xs sm (c + 0) 12 = g1) (hp1 : pickV xs sm (c + 1) 13 = j) (hp2 : pickV xs sm (c + 2) 4 = e) (hp3 : pickV xs sm (c + 3) 6 = q) (hp4 : pickV xs sm (c + 4) 12 = g2) (hg1 : signsL[g1]? = some s1) (hg2 : signsL[g2]? = some s3) (hj : j < 13) (he : e < 4) (hq : q < 6) (hk1 : g1 < 12) (hk2 : g2 < 12) (hs1 : s1.length ≤ 4) (hs3 : s3.length ≤ 4) (hd : Int.fdiv (e : Nat) 2 = ((e / 2 : Nat) : Int)) (hn : ((1 + (e : Nat) + Int.fdiv (e : Nat) 2 : Int) != 1 + (e : Nat) + Int.fdiv (e : Nat) 2) = false) (hl1 : LineOk (wI w bi) b (nlS e ++ erS s1 j ++ nlS (e / 2)) (1 + (e : Nat) + Int.fdiv (e : Nat) 2)) (ht : ((tgS q).cps.toList == (Z "a ? b : c").cps.toList) = false) (hl2 : LineOk (wI w bi) b (tgS q ++ nlS e ++ s3 ++ Z " b") (1 + (e : Nat))) (B T : Nat) : PV (parF (wI w bi) b 690 9000) fun l => Same (cutCT (parF (wI w bi) b 690 9000) L 8 428 (Kk [Kkt,Kac,Kil,Kfv,Kny,Kbp,Kay,Kaj,128,Kqp,Kjw,Kdv,Kda,Kio,Kgh,136,Kdv,Kbn,Kcx,Kfv,Kab,Knu,Kfv,Kar,Kar,Khs,Kfd,Kfd,0x23c08f,Kdp,143,Kdp,143,Kak,143,Kbw,16527]) l ⟨[⟨L, ⟨oc, od, .dict es en, so⟩, true⟩, ⟨Nat.succ L, cellO (.ref pen), false⟩, ⟨pen, penO s2 c sm tc ts 0, true⟩, ⟨s2, listN vs n2, false⟩], B, T, []⟩ ((.ok (.ret (.bool true))))) := pv (vf (cPick pen s2 vs n2 0 ((c + 0 : Nat) : Int) sm tc ts ((Nat.succ 11 : Nat) : Int) (g1 : Nat)) [5, 6] (n_pick (wI w bi) b _ _ xs _ _ _ _ _ _ _ _ _ hv hx (by omega) hp0) rfl fun x1 => vf (cGetL (B + 2) (signVs (T + 2)) 0 g1 (.str s1 ((T + 2) + g1))) [0] (n_getL (wI w bi) b _ _ _ _ _ (by omega) (valsFrom_get hg1)) rfl fun x2 => vf (cAddS (Z "a ") s1) [] (n_addS (wI w bi) b _ _ (ad_len (n := 2) (m := 4) (by decide) hs1 (by decide))) rfl fun x3 => vf (cPick pen s2 vs n2 0 ((c + 1 : Nat) : Int) sm (x1.2.2 1) ts ((Nat.succ 12 : Nat) : Int) (j : Nat)) [6, 7] (n_pick (wI w bi) b _ _ xs _ _ _ _ _ _ _ _ _ hv hx (by omega) hp1) rfl fun x4 => vf (cGetL x1.1 [.str (Z "a " ++ s1) (x3.2.2 0), .str (Z "a ? b") x3.2.1, .str (Z "a ? b :") (x3.2.1 + 1), .str (Z "( a") (x3.2.1 + 2), .str (Z "a [ b") (x3.2.1 + 3), .str (Z "f ( a ,") (x3.2.1 + 4), .str (Z "a .") (x3.2.1 + 5), .str (Z "new") (x3.2.1 + 6), .str (Z "typeof") (x3.2.1 + 7), .str (Z "[ a ,") (x3.2.1 + 8), .str (Z "a ,") (x3.2.1 + 9), .str (Z "a in") (x3.2.1 + 10), .str (Z "a ||") (x3.2.1 + 11)] 0 j (.str (erS s1 j) (natAt [(x3.2.2 0), x3.2.1, (x3.2.1 + 1), (x3.2.1 + 2), (x3.2.1 + 3), (x3.2.1 + 4), (x3.2.1 + 5), (x3.2.1 + 6), (x3.2.1 + 7), (x3.2.1 + 8), (x3.2.1 + 9), (x3.2.1 + 10), (x3.2.1 + 11)] j))) [0] (n_getL (wI w bi) b _ _ _ _ _ (by omega) (er_get _ _ _ _ _ _ _ _ _ _ _ _ _ _ hj)) rfl fun x5 => vf (cPick pen s2 vs n2 0 ((c + 2 : Nat) : Int) sm (x4.2.2 1) ts ((Nat.succ 3 : Nat) : Int) (e : Nat)) [6, 7] (n_pick (wI w bi) b _ _ xs _ _ _ _ _ _ _ _ _ hv hx (by omega) hp2) rfl fun x6 => vf (cMulN e) [] (n_mulN (wI w bi) b _ he) rfl fun x7 => vf (cAddS (nlS e) (erS s1 j)) [] (n_addS (wI w bi) b _ _ (ad_len (n := 4) (m := 8) (by rw [nlS_len]; omega) (er_len hs1 j) (by decide))) rfl fun x8 => vf (cMulZ (Int.fdiv (e : Nat) 2) (e / 2)) [] (n_mulZ (wI w bi) b _ _ (by omega) hd) rfl fun x9 => vf (cAddS (nlS e ++ erS s1 j) (nlS (e / 2))) [] (n_addS (wI w bi) b _ _ (ad_len (n := 12) (m := 4) (by have := nlS_len e; have := er_len hs1 j; rw [str_app]; omega) (by rw [nlS_len]; omega) (by decide))) rfl fun x10 => vx (lineX (nlS e ++ erS s1 j ++ nlS (e / 2)) (1 + (e : Nat) + Int.fdiv (e : Nat) 2) B L [7, 8]) (hl1 _ _ (by decide)) fun x11 => vf (cNeI (1 + (e : Nat) + Int.fdiv (e : Nat) 2) (1 + (e : Nat) + Int.fdiv (e : Nat) 2) false) [] (n_neI (wI w bi) b _ _ _ hn) rfl fun x12 => vf (cPick pen s2 vs n2 0 ((c + 3 : Nat) : Int) sm (x6.2.2 1) ts ((Nat.succ 5 : Nat) : Int) (q : Nat)) [11, 12] (n_pick (wI w bi) b _ _ xs _ _ _ _ _ _ _ _ _ hv hx (by omega) hp3) rfl fun x13 => vf (cGetL x11.1 [.str (Z "f ( a )") x12.2.1, .str (Z "( a + b )") (x12.2.1 + 1), .str (Z "- a") (x12.2.1 + 2), .str (Z "this") (x12.2.1 + 3), .str (Z "a ? b : c") (x12.2.1 + 4), .str (Z "a ++") (x12.2.1 + 5)] 0 q (.str (tgS q) (natAt [x12.2.1, (x12.2.1 + 1), (x12.2.1 + 2), (x12.2.1 + 3), (x12.2.1 + 4), (x12.2.1 + 5)] q))) [0] (n_getL (wI w bi) b _ _ _ _ _ (by omega) (tg_get _ _ _ _ _ _ hq)) rfl fun x14 => vf (cPick pen s2 vs n2 0 ((c + 4 : Nat) : Int) sm (x13.2.2 1) ts ((Nat.succ 11 : Nat) : Int) (g2 : Nat)) [13, 14] (n_pick (wI w bi) b _ _ xs _ _ _ _ _ _ _ _ _ hv hx (by omega) hp4) rfl fun x15 => vf (cGetL (x13.1 + 1) (signVs x14.2.1) 0 g2 (.str s3 (x14.2.1 + g2))) [0] (n_getL (wI w bi) b _ _ _ _ _ (by omega) (valsFrom_get hg2)) rfl fun x16 => vf (cStrEq (tgS q) (Z "a ? b : c") false) [] (n_str_eq _ _ _ _ _ ht) rfl fun x17 => vf (cMulN e) [] (n_mulN (wI w bi) b _ he) rfl fun x18 => vf (cAddS (tgS q) (nlS e)) [] (n_addS (wI w bi) b _ _ (ad_len (n := 9) (m := 4) (tg_len q) (by rw [nlS_len]; omega) (by decide))) rfl fun x19 => vf (cAddS (tgS q ++ nlS e) s3) [] (n_addS (wI w bi) b _ _ (ad_len (n := 13) (m := 4) (by have := nlS_len e; have := tg_len q; rw [str_app]; omega) hs3 (by decide))) rfl fun x20 => vf (cAddS (tgS q ++ nlS e ++ s3) (Z " b")) [] (n_addS (wI w bi) b _ _ (ad_len (n := 17) (m := 2) (by have := nlS_len e; have := tg_len q; rw [str_app, str_app]; omega) (by decide) (by decide))) rfl fun x21 => vx (lineX (tgS q ++ nlS e ++ s3 ++ Z " b") (1 + (e : Nat)) B L [14, 15]) (hl2 _ _ (by decide)) fun x22 => vf (cEqI (1 + (e : Nat)) (1 + (e : Nat)) true) [] (n_eqI _ _ _ _ _ (decide_eq_true rfl)) rfl fun x23 => ve) fun x1 x2 x3 x4 x5 x6 x7 x8 x9 x10 x11 x12 x13 x14 x15 x16 x17 x18 x19 x20 x21 x22 x23 => by
  show Same _
  cases b <;> rfl'
structure Sfx (tx : Str) (i : Nat) (l : List Nat) : Prop where
  eq : tx.cps.toList.drop i = l
  le : i ≤ tx.length
  small : tx.length < 2 ^ 62
section
variable {tx : Str} {i c : Nat} {l m : List Nat}
theorem Sfx.at (h : Sfx tx i (c :: l)) : At tx i c := ⟨by
  have e := congrArg (fun x : List Nat => x[0]?) h.eq
  simpa [List.getElem?_drop] using e, by have := h.small; omega⟩
theorem Sfx.len (h : Sfx tx i l) : l.length = tx.length - i := by
  have e := congrArg List.length h.eq
  rw [List.length_drop] at e
  rw [str_len]; omega
theorem Sfx.app (h : Sfx tx i (l ++ m)) : Sfx tx (i + l.length) m := ⟨by
  rw [← List.drop_drop, h.eq, List.drop_left], by
  have := h.len
  have := h.le
  have := List.length_append (as := l) (bs := m)
  omega, h.small⟩
theorem Sfx.next (h : Sfx tx i (c :: l)) : Sfx tx (i + 1) l := Sfx.app (l := [c]) h
theorem Sfx.off (h : Sfx tx i []) : Off tx i := ⟨by
  have := h.len
  have := h.le
  simp at *
  omega, by have := h.small; omega⟩
theorem idx_hi {lo j : Int} (len : Nat) (h0 : 0 ≤ lo) (h : (len : Int) ≤ j) : Builtin.Str.strSliceIndices (some lo) (some j) 1 len = Builtin.Str.strSliceIndices (some lo) (some (len : Int)) 1 len := by
  have a1 : ¬ j < 0 := by omega
  have a2 : ¬ ((len : Int) < 0) := by omega
  have e1 : max (0 : Int) (min j (len : Int)) = len := by omega
  have e2 : max (0 : Int) (min (len : Int) (len : Int)) = len := by omega
  simp [Builtin.Str.strSliceIndices, a1, a2, e1, e2]
theorem str_of (h : tx.cps.toList = l) : tx = sC l := by
  cases tx with | mk a =>
  have e : a.toList = l := h
  show (⟨a⟩ : Str) = ⟨l.toArray⟩
  rw [← e]
theorem Sfx.piece (h : Sfx tx i l) {s : Nat} (hs : s ≤ 4) : Piece tx i (i + s : Nat) (sC (l.take s)) := by
  have hl := h.len
  have hle := h.le
  have hb : i + min s l.length ≤ tx.length := by omega
  have e : Builtin.Str.strSliceIndices (some (i : Int)) (some ((i + s : Nat) : Int)) 1 tx.length = Builtin.Str.strSliceIndices (some (i : Int)) (some ((i + min s l.length : Nat) : Int)) 1 tx.length := by
    by_cases q : i + s ≤ tx.length
    · have : min s l.length = s := by omega
      rw [this]
    · have e2 : ((i + min s l.length : Nat) : Int) = (tx.length : Int) := by omega
      rw [e2]
      exact idx_hi _ (by omega) (by omega)
  have et : l.take (min s l.length) = l.take s := by
    by_cases q : s ≤ l.length
    · rw [Nat.min_eq_left q]
    · rw [Nat.min_eq_right (by omega), List.take_of_length_le (by omega), List.take_of_length_le (by omega)]
  refine ⟨fun q => ?_, ?_, ?_⟩
  · rw [e, StrLaws.strSliceIndices_plain (Nat.le_add_right _ _) hb, List.length_map, List.length_range] at q
    have i0 : i = 0 := by omega
    subst i0
    have e0 : tx.cps.toList = l := by have := h.eq; rwa [List.drop_zero] at this
    have : l.take s = l := List.take_of_length_le (by omega)
    rw [this]
    exact str_of e0
  · rw [e, StrLaws.sliced_plain tx (Nat.le_add_right _ _) hb, h.eq, Nat.add_sub_cancel_left, et]
    rfl
  · show (l.take s).toArray.size ≤ 4
    rw [List.size_toArray, List.length_take]
    omega
end
noncomputable def hdB (l : List Nat) : Bool := match l with
  | [] => true
  | c :: l => decide (33 ≤ c) && (decide (c ≤ 126) && !(c == 47 && (match l with
    | [] => false
    | d :: _ => d == 47 || d == 42)))
theorem ins_all (w : World) : ((List.range 94).all fun k => (match inI (ktOf w.params) 44 ((k + 33 : Nat) : Int) with | some x => !x | none => false) && (match inI (ktOf w.params) 43 ((k + 33 : Nat) : Int) with | some x => !x | none => false)) = true := by rfl'
theorem ins_off (w : World) : inI (ktOf w.params) 44 (-1) = some false ∧ inI (ktOf w.params) 43 (-1) = some false := ⟨by rfl', by rfl'⟩
theorem ins_ok (w : World) {c : Nat} (h1 : 33 ≤ c) (h2 : c ≤ 126) : inI (ktOf w.params) 44 (c : Int) = some false ∧ inI (ktOf w.params) 43 (c : Int) = some false := by
  have h := List.all_eq_true.mp (ins_all w) (c - 33) (List.mem_range.mpr (by omega))
  have e : c - 33 + 33 = c := by omega
  rw [e] at h
  obtain ⟨a, b⟩ := Bool.and_eq_true_iff.mp h
  constructor
  · split at a
    · rename_i x ex; rw [ex]; simpa using a
    · cases a
  · split at b
    · rename_i x ex; rw [ex]; simpa using b
    · cases b
theorem sw_no {tx : Str} {i : Nat} {l : List Nat} (h : Sfx tx i l) {x y : Nat} (z : Str) (hz : z.cps.toList = [x, y]) (n : ∀ r, l ≠ x :: y :: r) : swB tx z i = false := by
  have e : PySem.fromIndex tx.length (i : Int) = i := by
    unfold PySem.fromIndex
    rw [if_neg (by omega)]
    omega
  have hn : z.length = 2 := by rw [str_len, hz]; rfl
  unfold swB
  rw [e, StrLaws.subAt_eq, h.eq, hz, hn]
  have : (l.take 2 == [x, y]) = false := by
    cases l with
    | nil => rfl
    | cons a l =>
      cases l with
      | nil => simp
      | cons d l =>
        simp
        intro ea ed
        exact n l (by rw [ea, ed])
  rw [this, Bool.and_false]
structure Hd (w : World) (tx : Str) (i : Nat) (c : Int) : Prop where
  cat : Cat tx i c
  l : inI (ktOf w.params) 44 c = some false
  w : inI (ktOf w.params) 43 c = some false
  s : decide (8192 ≤ c) = false
  a : swB tx (Z "//") i = false
  b : swB tx (Z "/*") i = false
theorem hd_ok (w : World) {tx : Str} {i : Nat} {l : List Nat} (h : Sfx tx i l) (hb : hdB l = true) : ∃ c, Hd w tx i c := by
  cases l with
  | nil => exact ⟨-1, .inr ⟨h.off, rfl⟩, (ins_off w).1, (ins_off w).2, by decide, sw_no h _ (x := 47) (y := 47) (by decide) (fun r e => nomatch e), sw_no h _ (x := 47) (y := 42) (by decide) (fun r e => nomatch e)⟩
  | cons c l =>
    obtain ⟨a, hb⟩ := Bool.and_eq_true_iff.mp hb
    obtain ⟨b, hb⟩ := Bool.and_eq_true_iff.mp hb
    have a := of_decide_eq_true a
    have b := of_decide_eq_true b
    refine ⟨c, .inl ⟨c, h.at, rfl⟩, (ins_ok w a b).1, (ins_ok w a b).2, by simp; omega, sw_no h _ (x := 47) (y := 47) (by decide) (fun r e => ?_), sw_no h _ (x := 47) (y := 42) (by decide) (fun r e => ?_)⟩
    · cases e; simp at hb
    · cases e; simp at hb
structure Blk where
  cs : List Nat
  n : Nat
  f : Bool
inductive Bl : Blk → Prop
  | z : Bl ⟨[], 0, false⟩
  | s : Bl ⟨[32], 0, false⟩
  | n1 : Bl ⟨[10], 1, true⟩
  | n2 : Bl ⟨[10, 10], 2, true⟩
  | n3 : Bl ⟨[10, 10, 10], 3, true⟩
theorem skip_ok (w : World) (b : Bool) (la ld : Addr) (k v : Nat → Nat) {tx : Str} {i ln : Nat} {l : List Nat} {bl : Blk} (hB : Bl bl) (h : Sfx tx i (bl.cs ++ l)) (hb : hdB l = true) : Nd w b (cSkip w.params la ld k v tx i ln (i + bl.cs.length) (ln + bl.n) bl.f) := by
  obtain ⟨c, H⟩ := hd_ok w h.app hb
  intro ix I
  cases hB with
  | z => exact n_skip_0 w b la ld k v tx i ln c H.cat H.l H.w H.s H.a H.b I
  | s => exact n_skip_s w b la ld k v tx i ln c h.at H.cat H.l H.w H.s H.a H.b I
  | n1 => exact n_skip_n1 w b la ld k v tx i ln c h.at H.cat H.l H.w H.s H.a H.b I
  | n2 => exact n_skip_n2 w b la ld k v tx i ln c h.at h.next.at H.cat H.l H.w H.s H.a H.b I
  | n3 => exact n_skip_n3 w b la ld k v tx i ln c h.at h.next.at h.next.next.at H.cat H.l H.w H.s H.a H.b I
noncomputable def StopsL (l : List Nat) : Prop := l = [] ∨ ∃ c r, l = c :: r ∧ (c = 10 ∨ c = 32 ∨ SgC c)
theorem stops {tx : Str} {i : Nat} {l : List Nat} (h : Sfx tx i l) (s : StopsL l) : Stops tx i := by
  rcases s with rfl | ⟨c, r, rfl, rfl | rfl | hc⟩
  · exact .inr (.inr (.inl h.off))
  · exact .inl h.at
  · exact .inr (.inl h.at)
  · exact .inr (.inr (.inr ⟨c, hc, h.at⟩))
inductive PF (w : World) (l p : List Nat) : Nat → Prop
  | here {s : Nat} (h : l.take s = p) (g : isPunct w (sC p) = true) : PF w l p s
  | on {s : Nat} (g : isPunct w (sC (l.take (s + 1))) = false) (r : PF w l p s) : PF w l p (s + 1)
theorem PF.from {w : World} {tx : Str} {i : Nat} {l p : List Nat} (h : Sfx tx i l) : ∀ {n : Nat}, n ≤ 4 → PF w l p n → PunctFrom w tx i (sC p) n
  | n, hn, .here e g => .here (by have := h.piece hn; rwa [e] at this) g
  | n + 1, hn, .on g r => .on _ (h.piece hn) g (PF.from h (by omega) r)
abbrev PuC (c : Nat) : Prop := c = 37 ∨ c = 38 ∨ c = 40 ∨ c = 41 ∨ c = 42 ∨ c = 43 ∨ c = 44 ∨ c = 45 ∨ c = 47 ∨ c = 58 ∨ c = 60 ∨ c = 61 ∨ c = 62 ∨ c = 63 ∨ c = 91 ∨ c = 93 ∨ c = 94 ∨ c = 124
theorem puC_n {c : Nat} (h : PuC c) : 33 ≤ c ∧ c ≤ 126 ∧ c ≠ 92 ∧ c ≠ 34 ∧ c ≠ 39 ∧ c ≠ 46 ∧ (c < 48 ∨ 57 < c) := by
  rcases h with rfl | rfl | rfl | rfl | rfl | rfl | rfl | rfl | rfl | rfl | rfl | rfl | rfl | rfl | rfl | rfl | rfl | rfl <;> decide
theorem n_is0_c (w : World) (b : Bool) {c : Nat} (hc : PuC c) : Nd w b (cIS c false) := fun {ix} I => by
  rcases hc with rfl | rfl | rfl | rfl | rfl | rfl | rfl | rfl | rfl | rfl | rfl | rfl | rfl | rfl | rfl | rfl | rfl | rfl
  · exact n_is0_37 w b I
  · exact n_is0_38 w b I
  · exact n_is0_40 w b I
  · exact n_is0_41 w b I
  · exact n_is0_42 w b I
  · exact n_is0_43 w b I
  · exact n_is0_44 w b I
  · exact n_is0_45 w b I
  · exact n_is0_47 w b I
  · exact n_is0_58 w b I
  · exact n_is0_60 w b I
  · exact n_is0_61 w b I
  · exact n_is0_62 w b I
  · exact n_is0_63 w b I
  · exact n_is0_91 w b I
  · exact n_is0_93 w b I
  · exact n_is0_94 w b I
  · exact n_is0_124 w b I
theorem n_dg_c (w : World) (b : Bool) {c : Nat} (hc : c < 48 ∨ 57 < c) : Nd w b (cDG c false) := fun {ix} I => by
  rcases hc with h | h
  · exact n_dg0 w b _ (by simp; omega) I
  · exact n_dg1 w b _ (by simp; omega) (by simp; omega) I
theorem letters_kw (w : World) : ((List.range 26).all fun k => match inS "list" (ktOf w.params) 247 (sC [k + 97]) with | some x => !x | none => false) = true := by rfl'
theorem letter_kw (w : World) {c : Nat} (h : Letter c) : inS "list" (ktOf w.params) 247 (sC [c]) = some false := by
  have q := List.all_eq_true.mp (letters_kw w) (c - 97) (List.mem_range.mpr (by have := h.2; omega))
  have e : c - 97 + 97 = c := by have := h.1; omega
  rw [e] at q
  split at q
  · rename_i x ex; rw [ex]; simpa using q
  · cases q
noncomputable def kwL : List (List Nat) := [[105, 110], [110, 101, 119], [116, 104, 105, 115], [116, 121, 112, 101, 111, 102], [105, 110, 115, 116, 97, 110, 99, 101, 111, 102]]
inductive LexOk (w : World) : Str → Str → List Nat → Prop
  | nm {c : Nat} {rest : List Nat} (hc : Letter c) (st : StopsL rest) : LexOk w sN (sC [c]) rest
  | kw {l rest : List Nat} (hl : l ∈ kwL) (st : StopsL rest) : LexOk w sK (sC l) rest
  | pu {c : Nat} {p rest : List Nat} (hc : PuC c) (hp : p.length < 4) (hf : PF w (c :: p ++ rest) (c :: p) 4) (hd : hdB (c :: p ++ rest) = true) : LexOk w sP (sC (c :: p)) rest
  | dot {rest : List Nat} (hf : PF w (46 :: rest) [46] 4) (hr : rest = [] ∨ ∃ c r, rest = c :: r ∧ c < 48) : LexOk w sP (sC [46]) rest
  | en : LexOk w sE s0 []
theorem LexOk.hd {w : World} {kd vl : Str} {rest : List Nat} (h : LexOk w kd vl rest) : hdB (vl.cps.toList ++ rest) = true := by
  have lt : ∀ {c : Nat} {l : List Nat}, Letter c → hdB (c :: l) = true := fun {c l} h => by
    have h1 := h.1
    have h2 := h.2
    have n : (c == 47) = false := by simp; omega
    simp only [hdB, n, Bool.false_and, Bool.not_false, Bool.and_true, Bool.and_eq_true, decide_eq_true_eq]
    omega
  cases h with
  | nm hc st => exact lt hc
  | kw hl st =>
    rename_i l
    have : ∃ c m, l = c :: m ∧ Letter c := by
      simp only [kwL, List.mem_cons, List.not_mem_nil, or_false] at hl
      rcases hl with rfl | rfl | rfl | rfl | rfl <;> exact ⟨_, _, rfl, by decide⟩
    obtain ⟨c, m, rfl, hc⟩ := this
    exact lt hc
  | pu hc hp hf hd => exact hd
  | dot hf hr => rfl
  | en => rfl
theorem lex_item (w : World) (b : Bool) (la ld : Addr) (k v : Nat → Nat) {tx : Str} {i ln : Nat} {kd vl : Str} {rest : List Nat} {bl : Blk} (hB : Bl bl) (h : Sfx tx i (bl.cs ++ (vl.cps.toList ++ rest))) (ok : LexOk w kd vl rest) :
    Nd w b (cNext w.params la ld k v tx i ln kd vl (ln + bl.n) bl.f (i + bl.cs.length) (i + bl.cs.length + vl.length)) := by
  have sk : Nd w b (cSkip w.params la ld k v tx i ln (i + bl.cs.length) (ln + bl.n) bl.f) := skip_ok w b la ld k v hB h ok.hd
  have h2 := h.app
  have h3 := h2.app
  have pun : ∀ {c : Nat} {p : List Nat} (_ : vl = sC (c :: p)) (_ : p.length < 4) (_ : PF w (c :: p ++ rest) (c :: p) 4) (v : Nat → Nat) (t td : Addr) (tk tv : Nat → Nat), Nd w b (cRead 502 w.params la ld k v t td tk tv tx (i + bl.cs.length) (ln + bl.n) bl.f (i + bl.cs.length) (i + bl.cs.length + vl.length) sP vl) := fun {c p} e hp hf v t td tk tv ix I => by
    subst e
    refine n_rp w b la ld k v t td tk tv tx _ _ _ _ _ (hf.from h2 (Nat.le_refl _)) (fun ⟨q, _⟩ => ?_) ?_ I
    · have := q.part
      rw [StrLaws.sliced_plain tx (Nat.le_add_right _ _) (by have := h2.le; omega)] at this
      simp [sC] at this
    · show (c :: p).toArray.size < _
      rw [List.size_toArray, List.length_cons]
      omega
  intro ix I
  cases ok with
  | nm hc st =>
    rename_i c
    exact n_nx_name w b la ld k v tx i ln _ _ _ c _ _ _ sk (fun v t td tk tv ix I => n_rn_x w b la ld k v t td tk tv tx _ _ _ _ c h2.at (stops h3 st) hc (letter_kw w hc) I) h2.at (by have := hc.2; simp; omega) (by have := hc.1; simp; omega) (by have := hc.1; simp; omega) (by have := hc.1; simp; omega) (by have := hc.2; simp; omega) I
  | kw hl st =>
    simp only [kwL, List.mem_cons, List.not_mem_nil, or_false] at hl
    rcases hl with rfl | rfl | rfl | rfl | rfl
    · exact n_nx_name w b la ld k v tx i ln _ _ _ 105 _ _ _ sk (fun v t td tk tv ix I => n_rn_in w b la ld k v t td tk tv tx _ _ _ _ h2.at h2.next.at (stops h3 st) I) h2.at (by decide) (by decide) (by decide) (by decide) (by decide) I
    · exact n_nx_name w b la ld k v tx i ln _ _ _ 110 _ _ _ sk (fun v t td tk tv ix I => n_rn_new w b la ld k v t td tk tv tx _ _ _ _ h2.at h2.next.at h2.next.next.at (stops h3 st) I) h2.at (by decide) (by decide) (by decide) (by decide) (by decide) I
    · exact n_nx_name w b la ld k v tx i ln _ _ _ 116 _ _ _ sk (fun v t td tk tv ix I => n_rn_this w b la ld k v t td tk tv tx _ _ _ _ h2.at h2.next.at h2.next.next.at h2.next.next.next.at (stops h3 st) I) h2.at (by decide) (by decide) (by decide) (by decide) (by decide) I
    · exact n_nx_name w b la ld k v tx i ln _ _ _ 116 _ _ _ sk (fun v t td tk tv ix I => n_rn_typeof w b la ld k v t td tk tv tx _ _ _ _ h2.at h2.next.at h2.next.next.at h2.next.next.next.at h2.next.next.next.next.at h2.next.next.next.next.next.at (stops h3 st) I) h2.at (by decide) (by decide) (by decide) (by decide) (by decide) I
    · exact n_nx_name w b la ld k v tx i ln _ _ _ 105 _ _ _ sk (fun v t td tk tv ix I => n_rn_instanceof w b la ld k v t td tk tv tx _ _ _ _ h2.at h2.next.at h2.next.next.at h2.next.next.next.at h2.next.next.next.next.at h2.next.next.next.next.next.at h2.next.next.next.next.next.next.at h2.next.next.next.next.next.next.next.at h2.next.next.next.next.next.next.next.next.at h2.next.next.next.next.next.next.next.next.next.at (stops h3 st) I) h2.at (by decide) (by decide) (by decide) (by decide) (by decide) I
  | pu hc hp hf hd =>
    rename_i c p
    have hn := (puC_n hc).2.2
    exact n_nx_punct w b la ld k v tx i ln _ _ _ c _ _ _ sk (pun rfl hp hf) h2.at (n_is0_c w b hc) (n_dg_c w b hn.2.2.2.2) (by simp; omega) (by simp; omega) (by simp; omega) (by simp; omega) I
  | dot hf hr =>
    have cc : ∃ c2, Cat tx (i + bl.cs.length + 1) c2 ∧ c2 < 48 := by
      rcases hr with rfl | ⟨c, r, rfl, hc⟩
      · exact ⟨-1, .inr ⟨h3.off, rfl⟩, by decide⟩
      · exact ⟨c, .inl ⟨c, h3.at, rfl⟩, by omega⟩
    obtain ⟨c2, q1, q2⟩ := cc
    exact n_nx_dot w b la ld k v tx i ln _ _ _ _ _ _ c2 sk (pun rfl (by decide) hf) h2.at q1 (fun {ix} I => n_dg0 w b _ (by simp; omega) I) I
  | en => exact n_nx_end w b la ld k v tx i ln _ _ _ sk h2.off I
noncomputable def Bk (rest : List Nat) : Prop := rest = [] ∨ ∃ c r, rest = c :: r ∧ (c = 10 ∨ c = 32)
noncomputable def Lz (w : World) (kd vl : Str) : Prop := ∀ rest, Bk rest → LexOk w kd vl rest
theorem Bk.stops {rest : List Nat} (h : Bk rest) : StopsL rest := by
  rcases h with h | ⟨c, r, e, h | h⟩
  · exact .inl h
  · exact .inr ⟨c, r, e, .inl h⟩
  · exact .inr ⟨c, r, e, .inr (.inl h)⟩
theorem lz_nm {w : World} {s : Str} (c : Nat) (h : s = sC [c]) (hc : Letter c) : Lz w sN s := fun rest hr => by
  subst h; exact .nm hc hr.stops
theorem lz_kw {w : World} {s : Str} (l : List Nat) (h : s = sC l) (hl : l ∈ kwL) : Lz w sK s := fun rest hr => by
  subst h; exact .kw hl hr.stops
noncomputable def blB (x : Nat) : Bool := x == 10 || x == 32
theorem keys_nb (w : World) : ((esOf (ktOf w.params) 302).all fun e => match e.key with | .str s _ => s.cps.toList.all (fun x => !blB x) | _ => false) = true := by rfl'
theorem punct_key {w : World} {q : Str} (h : isPunct w q = true) {f : Str → Bool} (hf : ((esOf (ktOf w.params) 302).all fun e => match e.key with | .str s _ => f s | _ => false) = true) : f q = true := by
  unfold isPunct at h
  rw [lookE_eq, Option.isSome_map] at h
  obtain ⟨y, hy⟩ := Option.isSome_iff_exists.mp h
  have h1 := List.find?_some hy
  have h2 := List.mem_of_find?_eq_some hy
  have h3 := List.all_eq_true.mp hf y h2
  obtain ⟨t, hk⟩ := Value.isStrOf_shape h1
  rw [hk] at h3
  exact h3
theorem no_punct {w : World} {l : List Nat} {x : Nat} (hx : x ∈ l) (hb : blB x = true) : isPunct w (sC l) = false := by
  cases e : isPunct w (sC l) with
  | false => rfl
  | true =>
    have := List.all_eq_true.mp (punct_key e (keys_nb w)) x hx
    rw [hb] at this; cases this
noncomputable def slB (c : Nat) (p : List Nat) : Bool := c == 47 && (match p with
  | [] => false
  | d :: _ => d == 47 || d == 42)
noncomputable def puB (w : World) (s : Str) : Bool := match s.cps.toList with
  | [] => false
  | c :: p => decide (PuC c) && (decide (p.length < 4) && (isPunct w s && !slB c p))
theorem hd_pu {c : Nat} {p rest : List Nat} (hc : PuC c) (hs : slB c p = false) (hr : c ≠ 47 ∨ Bk rest) : hdB (c :: p ++ rest) = true := by
  have h1 := (puC_n hc).1
  have h2 := (puC_n hc).2.1
  show (decide (33 ≤ c) && (decide (c ≤ 126) && !(slB c (p ++ rest)))) = true
  have : slB c (p ++ rest) = false := by
    cases p with
    | cons d p => exact hs
    | nil =>
      rcases hr with hr | rfl | ⟨x, r, rfl, rfl | rfl⟩
      · have : (c == 47) = false := by simpa using hr
        show (c == 47 && _) = false
        rw [this]; rfl
      · show (c == 47 && false) = false
        simp
      · show (c == 47 && false) = false
        simp
      · show (c == 47 && false) = false
        simp
  rw [this]
  simp [h1, h2]
theorem lz_pu {w : World} {s : Str} (h : puB w s = true) : Lz w sP s := fun rest hr => by
  unfold puB at h
  split at h
  · cases h
  rename_i c p e
  obtain ⟨hc, h⟩ := Bool.and_eq_true_iff.mp h
  obtain ⟨hp, h⟩ := Bool.and_eq_true_iff.mp h
  obtain ⟨hg, h⟩ := Bool.and_eq_true_iff.mp h
  have hc := of_decide_eq_true hc
  have hp := of_decide_eq_true hp
  have hs : slB c p = false := by simpa using h
  have es := str_of e
  subst es
  refine .pu hc hp ?_ (hd_pu hc hs (.inr hr))
  have hl : (c :: p).length ≤ 4 := by rw [List.length_cons]; omega
  generalize hq : c :: p = q at hl hg ⊢
  rcases hr with rfl | ⟨x, r, rfl, hx⟩
  · rw [List.append_nil]
    exact .here (List.take_of_length_le hl) hg
  · have main : ∀ n, PF w (q ++ x :: r) q (q.length + n) := fun n => by
      induction n with
      | zero => exact .here List.take_left hg
      | succ n ih =>
        refine .on (no_punct (x := x) ?_ (by rcases hx with rfl | rfl <;> rfl)) ih
        have : (q ++ x :: r).take (q.length + n + 1) = q ++ (x :: r.take n) := by
          rw [Nat.add_assoc, List.take_length_add_append]; rfl
        show x ∈ (q ++ x :: r).take (q.length + n + 1)
        rw [this]; simp
    have e4 : q.length + (4 - q.length) = 4 := by omega
    rw [← e4]; exact main _
noncomputable def soB (w : World) (s : Str) : Bool := puB w s && (match s.cps.toList with
  | [] => false
  | c :: p => !(c == 47) && (esOf (ktOf w.params) 302).all fun e => match e.key with
    | .str k _ => !((c :: p).isPrefixOf k.cps.toList) || k.cps.toList.length == (c :: p).length
    | _ => false)
theorem lz_so {w : World} {s : Str} (h : soB w s = true) (rest : List Nat) : LexOk w sP s rest := by
  obtain ⟨h, hk⟩ := Bool.and_eq_true_iff.mp h
  unfold puB at h
  split at h
  · cases h
  rename_i c p e
  rw [e] at hk
  obtain ⟨h47, hk⟩ := Bool.and_eq_true_iff.mp hk
  obtain ⟨hc, h⟩ := Bool.and_eq_true_iff.mp h
  obtain ⟨hp, h⟩ := Bool.and_eq_true_iff.mp h
  obtain ⟨hg, h⟩ := Bool.and_eq_true_iff.mp h
  have hc := of_decide_eq_true hc
  have hp := of_decide_eq_true hp
  have hs : slB c p = false := by simpa using h
  have es := str_of e
  subst es
  refine .pu hc hp ?_ (hd_pu hc hs (.inl (by simpa using h47)))
  have hl : (c :: p).length ≤ 4 := by rw [List.length_cons]; omega
  generalize hq : c :: p = q at hl hg hk ⊢
  have main : ∀ n, PF w (q ++ rest) q (q.length + n) := fun n => by
    induction n with
    | zero => exact .here List.take_left hg
    | succ n ih =>
      have et : (q ++ rest).take (q.length + n + 1) = q ++ rest.take (n + 1) := by
        rw [Nat.add_assoc, List.take_length_add_append]
      cases hr : rest.take (n + 1) with
      | nil => exact .here (by rw [← Nat.add_assoc, et, hr, List.append_nil]) hg
      | cons d r =>
        refine .on ?_ ih
        show isPunct w (sC ((q ++ rest).take (q.length + n + 1))) = false
        rw [et, hr]
        cases e2 : isPunct w (sC (q ++ d :: r)) with
        | false => rfl
        | true =>
          have z := punct_key e2 (f := fun k => !(q.isPrefixOf k.cps.toList) || k.cps.toList.length == q.length) hk
          have pr : q.isPrefixOf (q ++ d :: r) = true := List.isPrefixOf_iff_prefix.mpr (List.prefix_append _ _)
          have z' : (!(q.isPrefixOf (q ++ d :: r)) || (q ++ d :: r).length == q.length) = true := z
          rw [pr] at z'
          simp at z'
  have e4 : q.length + (4 - q.length) = 4 := by omega
  rw [← e4]; exact main _
theorem keys_dot (w : World) : isPunct w (sC [46]) = true := by rfl'
theorem lz_dot (w : World) {s : Str} (h : s = sC [46]) : Lz w sP s := fun rest hr => by
  subst h
  refine .dot ?_ ?_
  · rcases hr with rfl | ⟨x, r, rfl, hx⟩
    · exact .here rfl (keys_dot w)
    · have hb : blB x = true := by rcases hx with rfl | rfl <;> rfl
      exact .on (no_punct (x := x) (by simp) hb) (.on (no_punct (x := x) (by simp) hb) (.on (no_punct (x := x) (by simp) hb) (.here rfl (keys_dot w))))
  · rcases hr with rfl | ⟨x, r, rfl, hx⟩
    · exact .inl rfl
    · exact .inr ⟨x, r, rfl, by omega⟩
theorem sg_pu (w : World) {s : Str} (hs : s ∈ signsL) : puB w s = true := sg_all (by rfl') hs
theorem sg_hd {s : Str} (hs : s ∈ signsL) : ∃ c r, s.cps.toList = c :: r ∧ SgC c := by
  have := sg_all (p := fun s => match s.cps.toList with | c :: _ => decide (SgC c) | [] => false) (by decide +kernel) hs
  split at this
  · rename_i c r e
    exact ⟨c, r, e, of_decide_eq_true this⟩
  · cases this
structure It where
  bl : Blk
  kd : Str
  vl : Str
noncomputable def textI : List It → List Nat
  | [] => []
  | it :: l => it.bl.cs ++ (it.vl.cps.toList ++ textI l)
theorem textI_app : ∀ l m : List It, textI (l ++ m) = textI l ++ textI m
  | [], m => rfl
  | it :: l, m => by
    show it.bl.cs ++ (it.vl.cps.toList ++ textI (l ++ m)) = (it.bl.cs ++ (it.vl.cps.toList ++ textI l)) ++ textI m
    rw [textI_app l m]; simp
noncomputable def It.pk (it : It) (k : Tk) : Tk := ⟨sE, s0, k.ln + it.bl.n, it.bl.f, k.en + it.bl.cs.length, k.en + it.bl.cs.length + it.vl.length⟩
noncomputable def It.tk (it : It) (k : Tk) : Tk := (it.pk k).as it.kd it.vl
noncomputable def OkI (w : World) : List It → Prop
  | [] => True
  | it :: l => Bl it.bl ∧ LexOk w it.kd it.vl (textI l) ∧ OkI w l
noncomputable def LexAt (w : World) (b : Bool) (tx : Str) (k k' : Tk) : Prop := ∀ (la ld : Addr) (kk v : Nat → Nat), Nd w b (cNext w.params la ld kk v tx k.en k.ln k'.kd k'.vl k'.ln k'.bh k'.st k'.en)
noncomputable def Chain (w : World) (b : Bool) (tx : Str) : Tk → List It → Prop
  | _, [] => True
  | k, it :: l => LexAt w b tx k (it.tk k) ∧ Chain w b tx (it.tk k) l
theorem chain_ok (w : World) (b : Bool) {tx : Str} : ∀ (l : List It) (k : Tk), OkI w l → Sfx tx k.en (textI l) → Chain w b tx k l
  | [], _, _, _ => trivial
  | it :: l, k, ⟨h1, h2, h3⟩, h => ⟨fun la ld kk v => lex_item w b la ld kk v h1 h h2, chain_ok w b l (it.tk k) h3 h.app.app⟩
theorem nxt_of {w : World} {b : Bool} {tx : Str} {k k' : Tk} (h : LexAt w b tx k k') : NxtA w b tx k k' := fun R hw ht c h1 h2 h3 ix I => by
  refine n_take w b R c k' hw (fun {ix} I => ?_) I
  have z := h R.l R.ld R.k c.v (ix := ix)
  rw [← hw, ← ht, ← h2, ← h3] at z
  rw [hw] at I z ⊢
  exact z I
noncomputable def kS : Tk := ⟨sE, s0, 1, false, 0, 0⟩
theorem first_of {w : World} {b : Bool} {tx : Str} {k' : Tk} (h : LexAt w b tx kS k') : First w b tx k' := fun la ld kk v ix I => h la ld kk v I
noncomputable def endI (bl : Blk) : It := ⟨bl, sE, s0⟩
theorem bk_bl {bl : Blk} (h : Bl bl) (hb : bl.cs ≠ []) (r : List Nat) : Bk (bl.cs ++ r) := by
  cases h with
  | z => exact absurd rfl hb
  | s => exact .inr ⟨_, _, rfl, .inr rfl⟩
  | n1 => exact .inr ⟨_, _, rfl, .inl rfl⟩
  | n2 => exact .inr ⟨_, _, rfl, .inl rfl⟩
  | n3 => exact .inr ⟨_, _, rfl, .inl rfl⟩
inductive Sep (w : World) : List It → Prop
  | one (it : It) (h : Lz w it.kd it.vl) (hb : Bl it.bl) : Sep w [it]
  | cons (it it2 : It) (l : List It) (h : Lz w it.kd it.vl) (hb : Bl it.bl) (h2 : it2.bl.cs ≠ []) (r : Sep w (it2 :: l)) : Sep w (it :: it2 :: l)
theorem Sep.ok {w : World} {bl : Blk} (hB : Bl bl) : ∀ {l : List It}, Sep w l → OkI w (l ++ [endI bl])
  | _, .one it h hb => ⟨hb, h _ (by
      show Bk (bl.cs ++ [])
      by_cases q : bl.cs = []
      · rw [q]; exact .inl rfl
      · exact bk_bl hB q []), hB, .en, trivial⟩
  | _, .cons it it2 l h hb h2 r => by
    have ih := r.ok hB
    refine ⟨hb, h _ ?_, ih⟩
    show Bk (it2.bl.cs ++ _)
    exact bk_bl ih.1 h2 _
abbrev bZ : Blk := ⟨[], 0, false⟩
noncomputable def mkI (sp : Blk) : Blk → List (Str × Str) → List It
  | _, [] => []
  | b0, (kd, vl) :: l => ⟨b0, kd, vl⟩ :: mkI sp sp l
noncomputable def LzL (w : World) (l : List (Str × Str)) : Prop := ∀ p ∈ l, Lz w p.1 p.2
theorem mk_sep {w : World} {sp : Blk} (hs : Bl sp) (hn : sp.cs ≠ []) : ∀ {l : List (Str × Str)} {b0 : Blk}, LzL w l → l ≠ [] → Bl b0 → Sep w (mkI sp b0 l)
  | [], _, _, h, _ => absurd rfl h
  | [(kd, vl)], b0, h, _, hb => .one _ (h _ (.head _)) hb
  | (kd, vl) :: (kd2, vl2) :: l, b0, h, _, hb => .cons _ _ _ (h _ (.head _)) hb hn (mk_sep hs hn (l := (kd2, vl2) :: l) (fun p hp => h p (.tail _ hp)) (by simp) hs)
noncomputable def wdB (w : World) (p : Str × Str) : Bool :=
  (p.1.cps.toList == sN.cps.toList && match p.2.cps.toList with | [c] => decide (Letter c) | _ => false) ||
  ((p.1.cps.toList == sK.cps.toList && decide (p.2.cps.toList ∈ kwL)) || (p.1.cps.toList == sP.cps.toList && (puB w p.2 || p.2.cps.toList == [46])))
theorem str_eq {s t : Str} (h : (s.cps.toList == t.cps.toList) = true) : s = t := by
  have e : s.cps.toList = t.cps.toList := by simpa using h
  rw [str_of e]
  exact (str_of rfl).symm
theorem wd_ok {w : World} {p : Str × Str} (h : wdB w p = true) : Lz w p.1 p.2 := by
  unfold wdB at h
  rcases Bool.or_eq_true_iff.mp h with h | h
  · obtain ⟨h1, h2⟩ := Bool.and_eq_true_iff.mp h
    rw [str_eq h1]
    split at h2
    · rename_i c e
      exact lz_nm c (str_of e) (of_decide_eq_true h2)
    · cases h2
  rcases Bool.or_eq_true_iff.mp h with h | h
  · obtain ⟨h1, h2⟩ := Bool.and_eq_true_iff.mp h
    rw [str_eq h1]
    exact lz_kw _ (str_of rfl) (of_decide_eq_true h2)
  · obtain ⟨h1, h2⟩ := Bool.and_eq_true_iff.mp h
    rw [str_eq h1]
    rcases Bool.or_eq_true_iff.mp h2 with h2 | h2
    · exact lz_pu h2
    · exact lz_dot w (str_of (by simpa using h2))
theorem wds_ok {w : World} {l : List (Str × Str)} (h : l.all (wdB w) = true) : LzL w l := fun p hp => wd_ok (List.all_eq_true.mp h p hp)
abbrev nW (s : String) : Str × Str := (sN, Z s)
abbrev pW (s : String) : Str × Str := (sP, Z s)
abbrev kW (s : String) : Str × Str := (sK, Z s)
noncomputable def opW : Nat → List (Str × Str)
  | 0 => [nW "b"]
  | 1 => [nW "b", pW "+", nW "c"]
  | 2 => [nW "b", kW "in", nW "c"]
  | 3 => [pW "(", nW "b", kW "in", nW "c", pW ")"]
  | 4 => [nW "f", pW "(", nW "b", kW "in", nW "c", pW ")"]
  | 5 => [nW "b", pW "?", nW "c", kW "in", nW "d", pW ":", nW "e"]
  | 6 => [nW "b", pW "?", nW "c", pW ":", nW "d", kW "in", nW "e"]
  | 7 => [nW "a", pW "[", nW "b", kW "in", nW "c", pW "]"]
  | 8 => [nW "b", kW "instanceof", nW "c"]
  | 9 => [nW "b", pW "<", nW "c", kW "in", nW "d"]
  | 10 => [nW "b", pW "||", nW "c", kW "in", nW "d"]
  | _ => [pW "-", nW "b", kW "in", nW "c"]
noncomputable def lkW (m : Nat) (s : Str) : List (Str × Str) := match m with
  | 0 => [nW "x", (sP, s)]
  | 1 => [nW "x", pW ".", nW "y", (sP, s)]
  | _ => [nW "x", pW "[", nW "y", pW "]", (sP, s)]
noncomputable def lksW (i : Nat) : List (Nat × Str) → List (Str × Str)
  | [] => opW i
  | (m, s) :: l => lkW m s ++ lksW i l
theorem opW_ok (w : World) (i : Nat) : LzL w (opW i) ∧ opW i ≠ [] := by
  unfold opW
  split <;> exact ⟨wds_ok (by rfl'), by simp⟩
theorem lkW_ok (w : World) (m : Nat) {s : Str} (hs : s ∈ signsL) : LzL w (lkW m s) := by
  have h : Lz w sP s := lz_pu (sg_pu w hs)
  have two : ∀ l : List (Str × Str), l.all (wdB w) = true → LzL w (l ++ [(sP, s)]) := fun l hl p hp => by
    rcases List.mem_append.mp hp with hp | hp
    · exact wds_ok hl p hp
    · rw [List.mem_singleton.mp hp]; exact h
  unfold lkW
  split
  · exact two [nW "x"] (by rfl')
  · exact two [nW "x", pW ".", nW "y"] (by rfl')
  · exact two [nW "x", pW "[", nW "y", pW "]"] (by rfl')
theorem lksW_ok (w : World) (i : Nat) : ∀ {l : List (Nat × Str)}, (∀ p ∈ l, p.2 ∈ signsL) → LzL w (lksW i l) ∧ lksW i l ≠ []
  | [], _ => opW_ok w i
  | (m, s) :: l, h => by
    have ih := lksW_ok w i (l := l) fun p hp => h p (.tail _ hp)
    refine ⟨fun p hp => ?_, fun e => ih.2 (List.append_eq_nil_iff.mp e).2⟩
    rcases List.mem_append.mp hp with hp | hp
    · exact lkW_ok w m (h _ (.head _)) p hp
    · exact ih.1 p hp
abbrev nmN (s : String) : Tr := .node (Z "Name") [.str (Z s)]
abbrev biN (g : String) (x y : Tr) : Tr := .node (Z "Binary") [.str (Z g), x, y]
noncomputable def oRT : Nat → Tr
  | 0 => nmN "b"
  | 1 => biN "+" (nmN "b") (nmN "c")
  | 2 => biN "in" (nmN "b") (nmN "c")
  | 3 => biN "in" (nmN "b") (nmN "c")
  | 4 => .node (Z "Call") [nmN "f", .lst [biN "in" (nmN "b") (nmN "c")]]
  | 5 => .node (Z "Cond") [nmN "b", biN "in" (nmN "c") (nmN "d"), nmN "e"]
  | 6 => .node (Z "Cond") [nmN "b", nmN "c", biN "in" (nmN "d") (nmN "e")]
  | 7 => .node (Z "Index") [nmN "a", biN "in" (nmN "b") (nmN "c")]
  | 8 => biN "instanceof" (nmN "b") (nmN "c")
  | 9 => biN "in" (biN "<" (nmN "b") (nmN "c")) (nmN "d")
  | 10 => .node (Z "Logical") [.str (Z "||"), nmN "b", biN "in" (nmN "c") (nmN "d")]
  | _ => biN "in" (.node (Z "Unary") [.str (Z "-"), nmN "b"]) (nmN "c")
noncomputable def oRS : Nat → Tr
  | 2 => nmN "b"
  | 6 => .node (Z "Cond") [nmN "b", nmN "c", nmN "d"]
  | 9 => biN "<" (nmN "b") (nmN "c")
  | 10 => .node (Z "Logical") [.str (Z "||"), nmN "b", nmN "c"]
  | 11 => .node (Z "Unary") [.str (Z "-"), nmN "b"]
  | n => oRT n
noncomputable def tgT : Nat → Tr
  | 0 => nmN "x"
  | 1 => .node (Z "Member") [nmN "x", .str (Z "y")]
  | _ => .node (Z "Index") [nmN "x", nmN "y"]
noncomputable def asT (m : Nat) (s : Str) (T : Tr) : Tr := .node (Z "Assign") [.str s, tgT m, T]
noncomputable def lksT : List (Nat × Str) → Tr → Tr
  | [], T => T
  | (m, s) :: l, T => asT m s (lksT l T)
noncomputable def AsOk (w : World) (b : Bool) (tx : Str) (d : Nat) (k0 kE : Tk) (can : Bool) (T : Tr) : Prop := ∃ (rk : Str) (rl : Nat), ∀ (R : Rd) (n : Int) (a : Ca), R.P = w.params → R.tx = tx → n + d ≤ 20 → NdV w b (20 * d) (100 * d) (cAsT R (cuA n k0 a) kE can rk rl T 160 1300)
noncomputable def EnOk (kE : Tk) (lf : Bool) : Prop := match lf with
  | true => ∃ e, kE = tK e "in"
  | false => ∃ e, kE = tE e
noncomputable def hdTk (l : List It) (k : Tk) : Tk := match l with
  | [] => k
  | it :: _ => it.tk k
structure RdOk (w : World) (b : Bool) (tx : Str) (d : Nat) (k kE : Tk) (can : Bool) (T : Tr) (k0 : Tk) : Prop where
  nx : LexAt w b tx k k0
  as : AsOk w b tx d k0 kE can T
theorem n20 {n : Int} (h : n + (0 : Nat) ≤ 20) : n ≤ 20 := by omega
theorem op_ok (w : World) (b : Bool) (tx : Str) (sp b0 bl : Blk) (i : Nat) (hi : i < 12) (can : Bool) (k : Tk) (h : Chain w b tx k (mkI sp b0 (opW i) ++ [endI bl])) :
    ∃ kE, RdOk w b tx 0 k kE can (match can with | true => oRT i | false => oRS i) (hdTk (mkI sp b0 (opW i)) k) ∧ EnOk kE (oL i && !can) := by
  have q := lt12 i hi
  rcases q with rfl | rfl | rfl | rfl | rfl | rfl | rfl | rfl | rfl | rfl | rfl | rfl
  · obtain ⟨a0, a1, _⟩ := h
    cases can <;> exact ⟨_, ⟨a0, _, _, fun R n a hw ht hn => op0 w b R n a _ _ _ hw (n20 hn) (nxt_of a1 R hw ht)⟩, ⟨_, rfl⟩⟩
  · obtain ⟨a0, a1, a2, a3, _⟩ := h
    cases can <;> exact ⟨_, ⟨a0, _, _, fun R n a hw ht hn => op1 w b R n a _ _ _ _ _ hw (n20 hn) (nxt_of a1 R hw ht) (nxt_of a2 R hw ht) (nxt_of a3 R hw ht)⟩, ⟨_, rfl⟩⟩
  · obtain ⟨a0, a1, a2, a3, _⟩ := h
    cases can
    · exact ⟨_, ⟨a0, _, _, fun R n a hw ht hn => op2f w b R n a _ _ hw (n20 hn) (nxt_of a1 R hw ht)⟩, ⟨_, rfl⟩⟩
    · exact ⟨_, ⟨a0, _, _, fun R n a hw ht hn => op2t w b R n a _ _ _ _ hw (n20 hn) (nxt_of a1 R hw ht) (nxt_of a2 R hw ht) (nxt_of a3 R hw ht)⟩, ⟨_, rfl⟩⟩
  · obtain ⟨a0, a1, a2, a3, a4, a5, _⟩ := h
    cases can <;> exact ⟨_, ⟨a0, _, _, fun R n a hw ht hn => op3 w b R n a _ _ _ _ _ _ _ hw (n20 hn) (nxt_of a1 R hw ht) (nxt_of a2 R hw ht) (nxt_of a3 R hw ht) (nxt_of a4 R hw ht) (nxt_of a5 R hw ht)⟩, ⟨_, rfl⟩⟩
  · obtain ⟨a0, a1, a2, a3, a4, a5, a6, _⟩ := h
    cases can <;> exact ⟨_, ⟨a0, _, _, fun R n a hw ht hn => op4 w b R n a _ _ _ _ _ _ _ _ hw (n20 hn) (nxt_of a1 R hw ht) (nxt_of a2 R hw ht) (nxt_of a3 R hw ht) (nxt_of a4 R hw ht) (nxt_of a5 R hw ht) (nxt_of a6 R hw ht)⟩, ⟨_, rfl⟩⟩
  · obtain ⟨a0, a1, a2, a3, a4, a5, a6, a7, _⟩ := h
    cases can <;> exact ⟨_, ⟨a0, _, _, fun R n a hw ht hn => op5 w b R n a _ _ _ _ _ _ _ _ _ hw (n20 hn) (nxt_of a1 R hw ht) (nxt_of a2 R hw ht) (nxt_of a3 R hw ht) (nxt_of a4 R hw ht) (nxt_of a5 R hw ht) (nxt_of a6 R hw ht) (nxt_of a7 R hw ht)⟩, ⟨_, rfl⟩⟩
  · obtain ⟨a0, a1, a2, a3, a4, a5, a6, a7, _⟩ := h
    cases can
    · exact ⟨_, ⟨a0, _, _, fun R n a hw ht hn => op6f w b R n a _ _ _ _ _ _ hw (n20 hn) (nxt_of a1 R hw ht) (nxt_of a2 R hw ht) (nxt_of a3 R hw ht) (nxt_of a4 R hw ht) (nxt_of a5 R hw ht)⟩, ⟨_, rfl⟩⟩
    · exact ⟨_, ⟨a0, _, _, fun R n a hw ht hn => op6t w b R n a _ _ _ _ _ _ _ _ hw (n20 hn) (nxt_of a1 R hw ht) (nxt_of a2 R hw ht) (nxt_of a3 R hw ht) (nxt_of a4 R hw ht) (nxt_of a5 R hw ht) (nxt_of a6 R hw ht) (nxt_of a7 R hw ht)⟩, ⟨_, rfl⟩⟩
  · obtain ⟨a0, a1, a2, a3, a4, a5, a6, _⟩ := h
    cases can <;> exact ⟨_, ⟨a0, _, _, fun R n a hw ht hn => op7 w b R n a _ _ _ _ _ _ _ _ hw (n20 hn) (nxt_of a1 R hw ht) (nxt_of a2 R hw ht) (nxt_of a3 R hw ht) (nxt_of a4 R hw ht) (nxt_of a5 R hw ht) (nxt_of a6 R hw ht)⟩, ⟨_, rfl⟩⟩
  · obtain ⟨a0, a1, a2, a3, _⟩ := h
    cases can <;> exact ⟨_, ⟨a0, _, _, fun R n a hw ht hn => op8 w b R n a _ _ _ _ _ hw (n20 hn) (nxt_of a1 R hw ht) (nxt_of a2 R hw ht) (nxt_of a3 R hw ht)⟩, ⟨_, rfl⟩⟩
  · obtain ⟨a0, a1, a2, a3, a4, a5, _⟩ := h
    cases can
    · exact ⟨_, ⟨a0, _, _, fun R n a hw ht hn => op9f w b R n a _ _ _ _ hw (n20 hn) (nxt_of a1 R hw ht) (nxt_of a2 R hw ht) (nxt_of a3 R hw ht)⟩, ⟨_, rfl⟩⟩
    · exact ⟨_, ⟨a0, _, _, fun R n a hw ht hn => op9t w b R n a _ _ _ _ _ _ hw (n20 hn) (nxt_of a1 R hw ht) (nxt_of a2 R hw ht) (nxt_of a3 R hw ht) (nxt_of a4 R hw ht) (nxt_of a5 R hw ht)⟩, ⟨_, rfl⟩⟩
  · obtain ⟨a0, a1, a2, a3, a4, a5, _⟩ := h
    cases can
    · exact ⟨_, ⟨a0, _, _, fun R n a hw ht hn => op10f w b R n a _ _ _ _ hw (n20 hn) (nxt_of a1 R hw ht) (nxt_of a2 R hw ht) (nxt_of a3 R hw ht)⟩, ⟨_, rfl⟩⟩
    · exact ⟨_, ⟨a0, _, _, fun R n a hw ht hn => op10t w b R n a _ _ _ _ _ _ hw (n20 hn) (nxt_of a1 R hw ht) (nxt_of a2 R hw ht) (nxt_of a3 R hw ht) (nxt_of a4 R hw ht) (nxt_of a5 R hw ht)⟩, ⟨_, rfl⟩⟩
  · obtain ⟨a0, a1, a2, a3, a4, _⟩ := h
    cases can
    · exact ⟨_, ⟨a0, _, _, fun R n a hw ht hn => op11f w b R n a _ _ _ hw (n20 hn) (nxt_of a1 R hw ht) (nxt_of a2 R hw ht)⟩, ⟨_, rfl⟩⟩
    · exact ⟨_, ⟨a0, _, _, fun R n a hw ht hn => op11t w b R n a _ _ _ _ _ hw (n20 hn) (nxt_of a1 R hw ht) (nxt_of a2 R hw ht) (nxt_of a3 R hw ht) (nxt_of a4 R hw ht)⟩, ⟨_, rfl⟩⟩
theorem mk_app (sp : Blk) : ∀ (b0 : Blk) (p : Str × Str) (l m : List (Str × Str)), mkI sp b0 (p :: l ++ m) = mkI sp b0 (p :: l) ++ mkI sp sp m
  | b0, (kd, vl), [], m => rfl
  | b0, (kd, vl), q :: l, m => congrArg (List.cons _) (mk_app sp sp q l m)
theorem rd_ok (w : World) (b : Bool) (tx : Str) (sp bl : Blk) (i : Nat) (hi : i < 12) (can : Bool) : ∀ (l : List (Nat × Str)), (∀ p ∈ l, p.1 < 3 ∧ p.2 ∈ signsL) → ∀ (b0 : Blk) (k : Tk), Chain w b tx k (mkI sp b0 (lksW i l) ++ [endI bl]) →
    ∃ kE, RdOk w b tx l.length k kE can (lksT l (match can with | true => oRT i | false => oRS i)) (hdTk (mkI sp b0 (lksW i l)) k) ∧ EnOk kE (oL i && !can)
  | [], _, b0, k, h => op_ok w b tx sp b0 bl i hi can k h
  | (m, s) :: l, hl, b0, k, h => by
    have ih := rd_ok w b tx sp bl i hi can l (fun p hp => hl p (.tail _ hp)) sp
    obtain ⟨hm, hs⟩ := hl _ (.head _)
    have hd : ∀ {n : Int}, n + ((m, s) :: l).length ≤ 20 → n ≤ 20 ∧ n + 1 + l.length ≤ 20 := fun {n} h => by
      simp only [List.length_cons] at h
      omega
    have q : m = 0 ∨ m = 1 ∨ m = 2 := by omega
    rcases q with rfl | rfl | rfl
    · obtain ⟨a0, a1, hc⟩ := h
      obtain ⟨kE, ⟨nx, rk, rl, as⟩, en⟩ := ih _ hc
      exact ⟨kE, ⟨a0, _, _, fun R n a hw ht hn => lk0 w b R n a _ _ _ kE s can rk rl _ hw (hd hn).1 hs (nxt_of a1 R hw ht) (nxt_of nx R hw ht) fun a2 => as R (n + 1) a2 hw ht (hd hn).2⟩, en⟩
    · obtain ⟨a0, a1, a2, a3, hc⟩ := h
      obtain ⟨kE, ⟨nx, rk, rl, as⟩, en⟩ := ih _ hc
      exact ⟨kE, ⟨a0, _, _, fun R n a hw ht hn => lk1 w b R n a _ _ _ _ _ kE s can rk rl _ hw (hd hn).1 hs (nxt_of a1 R hw ht) (nxt_of a2 R hw ht) (nxt_of a3 R hw ht) (nxt_of nx R hw ht) fun a2 => as R (n + 1) a2 hw ht (hd hn).2⟩, en⟩
    · obtain ⟨a0, a1, a2, a3, a4, hc⟩ := h
      obtain ⟨kE, ⟨nx, rk, rl, as⟩, en⟩ := ih _ hc
      exact ⟨kE, ⟨a0, _, _, fun R n a hw ht hn => lk2 w b R n a _ _ _ _ _ _ kE s can rk rl _ hw (hd hn).1 hs (nxt_of a1 R hw ht) (nxt_of a2 R hw ht) (nxt_of a3 R hw ht) (nxt_of a4 R hw ht) (nxt_of nx R hw ht) fun a2 => as R (n + 1) a2 hw ht (hd hn).2⟩, en⟩
noncomputable def cmW (c : Bool) (W : List (Str × Str)) : List (Str × Str) := match c with
  | true => nW "z" :: pW "," :: W
  | false => W
noncomputable def cmT (c : Bool) (T : Tr) : Tr := match c with
  | true => .node (Z "Comma") [.lst [nmN "z", T]]
  | false => T
theorem cmW_ok {w : World} (c : Bool) {W : List (Str × Str)} (h : LzL w W ∧ W ≠ []) : LzL w (cmW c W) ∧ cmW c W ≠ [] := by
  cases c with
  | false => exact h
  | true => exact ⟨fun p hp => by
      rcases List.mem_append.mp (show p ∈ [nW "z", pW ","] ++ W from hp) with hp | hp
      · exact wds_ok (w := w) (l := [nW "z", pW ","]) (by rfl') p hp
      · exact h.1 p hp, fun e => nomatch e⟩
theorem exUp {w : World} {b : Bool} {d : Nat} (hd : d ≤ 3) {R : Rd} {c : Cu} {kE : Tk} {can : Bool} {T : Tr} (h : NdV w b (20 * d + 0) (100 * d + 0) (cEx R c kE can T 200 1600)) : Nd w b (cEx R c kE can T 260 1900) := fun {ix} I =>
  (h (ix := ix) ⟨I.nd, I.len⟩).shift (C' := cEx R c kE can T 260 1900) rfl (by show 200 + (20 * d + 0) ≤ 260; omega) (by show 1600 + (100 * d + 0) ≤ 1900; omega)
noncomputable def kEnd (lf : Bool) (e : Tk) : Tk := match lf with
  | true => tK e "in"
  | false => tE e
theorem reads_ok (w : World) (b : Bool) (tx : Str) (sp : Blk) (i : Nat) (hi : i < 12) (c : Bool) (can : Bool) (l : List (Nat × Str)) (hl : ∀ p ∈ l, p.1 < 3 ∧ p.2 ∈ signsL) (h3 : l.length ≤ 3) (h : Chain w b tx kS (mkI sp bZ (cmW c (lksW i l)) ++ [endI bZ])) :
    First w b tx (hdTk (mkI sp bZ (cmW c (lksW i l))) kS) ∧ ∃ e, Reads w b tx (hdTk (mkI sp bZ (cmW c (lksW i l))) kS) can (kEnd (oL i && !can) e) (cmT c (lksT l (match can with | true => oRT i | false => oRS i))) := by
  cases c with
  | false =>
    obtain ⟨kE, ⟨nx, rk, rl, as⟩, en⟩ := rd_ok w b tx sp bZ i hi can l hl bZ kS h
    refine ⟨first_of nx, ?_⟩
    cases hq : (oL i && !can) with
    | true =>
      rw [hq] at en
      obtain ⟨e, rfl⟩ := en
      exact ⟨e, fun R a hw ht => exUp h3 (ex0i w b R 0 a _ e can rk rl _ hw (by decide) fun a2 => as R 0 a2 hw ht (by omega))⟩
    | false =>
      rw [hq] at en
      obtain ⟨e, rfl⟩ := en
      exact ⟨e, fun R a hw ht => exUp h3 (ex0e w b R 0 a _ e can rk rl _ hw (by decide) fun a2 => as R 0 a2 hw ht (by omega))⟩
  | true =>
    obtain ⟨a0, a1, hc⟩ := h
    obtain ⟨kE, ⟨nx, rk, rl, as⟩, en⟩ := rd_ok w b tx sp bZ i hi can l hl sp _ hc
    refine ⟨first_of a0, ?_⟩
    cases hq : (oL i && !can) with
    | true =>
      rw [hq] at en
      obtain ⟨e, rfl⟩ := en
      exact ⟨e, fun R a hw ht => exUp h3 (ex1i w b R 0 a _ _ _ e can rk rl _ hw (by decide) (nxt_of a1 R hw ht) (nxt_of nx R hw ht) fun a2 => as R 0 a2 hw ht (by omega))⟩
    | false =>
      rw [hq] at en
      obtain ⟨e, rfl⟩ := en
      exact ⟨e, fun R a hw ht => exUp h3 (ex1e w b R 0 a _ _ _ e can rk rl _ hw (by decide) (nxt_of a1 R hw ht) (nxt_of nx R hw ht) fun a2 => as R 0 a2 hw ht (by omega))⟩
noncomputable def lksX (i : Nat) : List (Nat × Str) → Str
  | [] => oX i
  | (m, s) :: l => lkX m s (lksX i l)
noncomputable def cmX (c : Bool) (X : Str) : Str := match c with
  | true => zS ++ X
  | false => X
abbrev bS : Blk := ⟨[32], 0, false⟩
theorem cat_list (x y : Str) : (x ++ y).cps.toList = x.cps.toList ++ y.cps.toList := by
  simp only [Str.cps_append, Array.toList_append]
theorem txt_sp (sp : Blk) : ∀ {W : List (Str × Str)}, W ≠ [] → textI (mkI sp sp W) = sp.cs ++ textI (mkI sp bZ W)
  | [], h => absurd rfl h
  | (kd, vl) :: W, _ => rfl
theorem txt_app (sp : Blk) {W1 W2 : List (Str × Str)} (h1 : W1 ≠ []) (h2 : W2 ≠ []) : textI (mkI sp bZ (W1 ++ W2)) = textI (mkI sp bZ W1) ++ (sp.cs ++ textI (mkI sp bZ W2)) := by
  cases W1 with
  | nil => exact absurd rfl h1
  | cons p l => rw [mk_app, textI_app, txt_sp sp h2]
theorem op_txt : ∀ i : Nat, (oX i).cps.toList = textI (mkI bS bZ (opW i))
  | 0 => by decide +kernel
  | 1 => by decide +kernel
  | 2 => by decide +kernel
  | 3 => by decide +kernel
  | 4 => by decide +kernel
  | 5 => by decide +kernel
  | 6 => by decide +kernel
  | 7 => by decide +kernel
  | 8 => by decide +kernel
  | 9 => by decide +kernel
  | 10 => by decide +kernel
  | n + 11 => by
    show (Z "- b in c").cps.toList = textI (mkI bS bZ [pW "-", nW "b", kW "in", nW "c"])
    decide +kernel
theorem lk_txt (m : Nat) (s : Str) : (fmS m).cps.toList ++ ([32] ++ s.cps.toList) = textI (mkI bS bZ (lkW m s)) := by
  have h : ∀ (l : List (Str × Str)) (z : List Nat), z = textI (mkI bS bZ l) → l ≠ [] → z ++ ([32] ++ s.cps.toList) = textI (mkI bS bZ (l ++ [(sP, s)])) := fun l z hz hl => by
    rw [txt_app bS hl (by simp), hz]
    show _ = _ ++ ([32] ++ ([] ++ (s.cps.toList ++ [])))
    simp
  match m with
  | 0 => exact h [nW "x"] (Z "x").cps.toList (by decide +kernel) (by simp)
  | 1 => exact h [nW "x", pW ".", nW "y"] (Z "x . y").cps.toList (by decide +kernel) (by simp)
  | n + 2 => exact h [nW "x", pW "[", nW "y", pW "]"] (Z "x [ y ]").cps.toList (by decide +kernel) (by simp)
theorem lkW_ne (m : Nat) (s : Str) : lkW m s ≠ [] := by
  unfold lkW; split <;> simp
theorem opW_ne (i : Nat) : opW i ≠ [] := by
  unfold opW; split <;> simp
theorem lksW_ne (i : Nat) : ∀ l : List (Nat × Str), lksW i l ≠ []
  | [] => opW_ne i
  | (m, s) :: l => fun e => lksW_ne i l (List.append_eq_nil_iff.mp e).2
theorem sp_list : (spS).cps.toList = [32] := by decide +kernel
theorem lks_txt (i : Nat) : ∀ l : List (Nat × Str), (lksX i l).cps.toList = textI (mkI bS bZ (lksW i l))
  | [] => op_txt i
  | (m, s) :: l => by
    show (lkX m s (lksX i l)).cps.toList = textI (mkI bS bZ (lkW m s ++ lksW i l))
    rw [txt_app bS (lkW_ne m s) (lksW_ne i l), ← lk_txt, ← lks_txt i l]
    unfold lkX
    simp only [cat_list, sp_list]
    simp
theorem cm_txt (c : Bool) (i : Nat) (l : List (Nat × Str)) : (cmX c (lksX i l)).cps.toList = textI (mkI bS bZ (cmW c (lksW i l))) := by
  cases c with
  | false => exact lks_txt i l
  | true =>
    show (zS ++ lksX i l).cps.toList = textI (mkI bS bZ ([nW "z", pW ","] ++ lksW i l))
    rw [txt_app bS (by simp) (lksW_ne i l), ← lks_txt i l, cat_list]
    have : zS.cps.toList = textI (mkI bS bZ [nW "z", pW ","]) ++ [32] := by decide +kernel
    rw [this]; simp
noncomputable def swp (d k : Nat) : Nat := if k = 32 then d else k
theorem swp_free (d : Nat) : ∀ l : List Nat, 32 ∉ l → l.map (swp d) = l
  | [], _ => rfl
  | k :: r, h => by
    have h1 : ¬ k = 32 := fun e => h (e ▸ List.mem_cons_self ..)
    have h2 : 32 ∉ r := fun m => h (List.mem_cons_of_mem _ m)
    rw [List.map_cons, swp_free d r h2]
    unfold swp
    rw [if_neg h1]
theorem swp_join (d : Nat) : ∀ parts : List Str, (∀ p ∈ parts, 32 ∉ p.cps.toList) → (Str.join ⟨#[32]⟩ parts).cps.toList.map (swp d) = (Str.join ⟨#[d]⟩ parts).cps.toList
  | [], _ => rfl
  | [p], h => swp_free d _ (h p (List.mem_singleton.mpr rfl))
  | p :: q :: r, h => by
    have ih := swp_join d (q :: r) fun a ha => h a (List.mem_cons_of_mem _ ha)
    show (p ++ ⟨#[32]⟩ ++ Str.join ⟨#[32]⟩ (q :: r)).cps.toList.map (swp d) = (p ++ ⟨#[d]⟩ ++ Str.join ⟨#[d]⟩ (q :: r)).cps.toList
    rw [cat_list, cat_list, cat_list, cat_list, List.map_append, List.map_append, ih, swp_free d _ (h p (List.mem_cons_self ..))]
    rfl
theorem repl_list (x : Str) (d : Nat) : (Txt.replace x ⟨#[32]⟩ ⟨#[d]⟩).cps.toList = x.cps.toList.map (swp d) := by
  rw [StrLaws.replace_one, ← swp_join d _ (StrLaws.split_free x 32), StrLaws.join_split]
noncomputable def spOf (e : Nat) : Blk := match e with
  | 0 => ⟨[10], 1, true⟩
  | _ => bS
theorem spOf_bl (e : Nat) : Bl (spOf e) ∧ (spOf e).cs ≠ [] := by
  unfold spOf
  split
  · exact ⟨.n1, by simp⟩
  · exact ⟨.s, by simp⟩
noncomputable def NbW (W : List (Str × Str)) : Prop := ∀ p ∈ W, 32 ∉ p.2.cps.toList
theorem map_txt {d : Nat} {sp : Blk} (hsp : sp.cs = [d]) : ∀ {W : List (Str × Str)}, NbW W → (textI (mkI bS bS W)).map (swp d) = textI (mkI sp sp W)
  | [], _ => rfl
  | (kd, vl) :: W, h => by
    have ih := map_txt hsp (W := W) fun p hp => h p (.tail _ hp)
    show ([32] ++ (vl.cps.toList ++ textI (mkI bS bS W))).map (swp d) = sp.cs ++ (vl.cps.toList ++ textI (mkI sp sp W))
    rw [List.map_append, List.map_append, ih, swp_free d _ (h _ (.head _)), hsp]
    rfl
theorem map_txt0 {d : Nat} {sp : Blk} (hsp : sp.cs = [d]) {W : List (Str × Str)} (hW : NbW W) : (textI (mkI bS bZ W)).map (swp d) = textI (mkI sp bZ W) := by
  cases W with
  | nil => rfl
  | cons p W =>
    obtain ⟨kd, vl⟩ := p
    show ([] ++ (vl.cps.toList ++ textI (mkI bS bS W))).map (swp d) = [] ++ (vl.cps.toList ++ textI (mkI sp sp W))
    rw [List.nil_append, List.nil_append, List.map_append, map_txt hsp (W := W) (fun p hp => hW p (.tail _ hp)), swp_free d _ (hW _ (.head _))]
theorem nb_of {W : List (Str × Str)} (h : W.all (fun p => !(p.2.cps.toList.contains 32)) = true) : NbW W := fun p hp hm => by
  have := List.all_eq_true.mp h p hp
  simp [hm] at this
theorem nb_lks (i : Nat) : ∀ {l : List (Nat × Str)}, (∀ p ∈ l, p.1 < 3 ∧ p.2 ∈ signsL) → NbW (lksW i l)
  | [], _ => by
    show NbW (opW i)
    unfold opW
    split <;> exact nb_of (by decide +kernel)
  | (m, s) :: l, h => fun p hp => by
    have hs : 32 ∉ s.cps.toList := fun hm => by
      have := sg_all (p := fun s => !(s.cps.toList.contains 32)) (by decide +kernel) (h _ (.head _)).2
      simp [hm] at this
    rcases List.mem_append.mp hp with hp | hp
    · have two : ∀ l : List (Str × Str), l.all (fun p => !(p.2.cps.toList.contains 32)) = true → NbW (l ++ [(sP, s)]) := fun l hl p hp => by
        rcases List.mem_append.mp hp with hp | hp
        · exact nb_of hl p hp
        · rw [List.mem_singleton.mp hp]; exact hs
      have : NbW (lkW m s) := by
        unfold lkW
        split
        · exact two [nW "x"] (by decide +kernel)
        · exact two [nW "x", pW ".", nW "y"] (by decide +kernel)
        · exact two [nW "x", pW "[", nW "y", pW "]"] (by decide +kernel)
      exact this p hp
    · exact nb_lks i (l := l) (fun p hp => h p (.tail _ hp)) p hp
theorem nb_cm (c : Bool) {W : List (Str × Str)} (h : NbW W) : NbW (cmW c W) := by
  cases c with
  | false => exact h
  | true =>
    intro p hp
    rcases List.mem_append.mp (show p ∈ [nW "z", pW ","] ++ W from hp) with hp | hp
    · exact nb_of (W := [nW "z", pW ","]) (by decide +kernel) p hp
    · exact h p hp
noncomputable def mainX (e : Nat) (c : Bool) (i : Nat) (l : List (Nat × Str)) : Str := Txt.replace (cmX c (lksX i l)) (Z " ") (rpS e)
theorem main_txt (e : Nat) (he : e < 2) (c : Bool) (i : Nat) {l : List (Nat × Str)} (hl : ∀ p ∈ l, p.1 < 3 ∧ p.2 ∈ signsL) : (mainX e c i l).cps.toList = textI (mkI (spOf e) bZ (cmW c (lksW i l)) ++ [endI bZ]) := by
  have h0 : textI (mkI (spOf e) bZ (cmW c (lksW i l)) ++ [endI bZ]) = textI (mkI (spOf e) bZ (cmW c (lksW i l))) := by
    rw [textI_app]
    show _ ++ ([] ++ ([] ++ [])) = _
    simp
  rw [h0]
  have q : e = 0 ∨ e = 1 := by omega
  have hs : Z " " = ⟨#[32]⟩ := by decide +kernel
  unfold mainX
  rcases q with rfl | rfl
  · have hr : rpS 0 = ⟨#[10]⟩ := by decide +kernel
    rw [hs, hr, repl_list, cm_txt, map_txt0 (sp := spOf 0) rfl (nb_cm c (nb_lks i hl))]
  · have hr : rpS 1 = ⟨#[32]⟩ := by decide +kernel
    rw [hs, hr, repl_list, cm_txt, map_txt0 (sp := spOf 1) rfl (nb_cm c (nb_lks i hl))]
theorem main_chain (w : World) (b : Bool) (e : Nat) (he : e < 2) (c : Bool) (i : Nat) {l : List (Nat × Str)} (hl : ∀ p ∈ l, p.1 < 3 ∧ p.2 ∈ signsL) (hn : (mainX e c i l).length < 2 ^ 62) : Chain w b (mainX e c i l) kS (mkI (spOf e) bZ (cmW c (lksW i l)) ++ [endI bZ]) := by
  have hw := cmW_ok (w := w) c (lksW_ok w i (l := l) fun p hp => (hl p hp).2)
  exact chain_ok w b _ _ ((mk_sep (spOf_bl e).1 (spOf_bl e).2 hw.1 hw.2 .z).ok .z) ⟨by rw [← main_txt e he c i hl]; rfl, Nat.zero_le _, hn⟩
theorem ln_to {w : World} {b : Bool} {tx : Str} {k k' : Nat} (h : ∀ (L1 L2 : Addr) {i1 i2 : Nat}, i1 ≠ i2 → Node (par w b 0 0) 0 0 XL (lineSpec tx k L1 L2 200 1600 i1 i2)) (e : k = k') : LineOk w b tx k' := fun L1 L2 i1 i2 hi => by
  subst e
  have n := h L1 L2 hi
  refine ⟨n.ne, ?_⟩
  obtain ⟨code, pre, dl, ul, um, pf, fl, zq, a1, a2, a3, a4⟩ := n.same
  have z := a3 (0, 0, fun _ => 0, fun _ => #[])
  have hdl : 200 = dl := z.2.2.1
  have hul : 1600 = ul := z.2.2.2.1
  refine ⟨code, pre, 300, 2400, um, pf, fl, zq, a1, a2, fun x => ?_, fun c A h g d tk os R b1 b2 b3 b4 b5 b6 b7 b8 b9 b10 b11 hR => a4 c A h g d tk os R b1 b2 (by omega) (by omega) b5 b6 b7 b8 b9 b10 b11 fun x h' q => hR x h' ⟨q.keep, q.size, q.grow, q.upd, q.add, q.nd, q.fact⟩⟩
  obtain ⟨c1, c2, _, _, c5, c6, c7, c8⟩ := a3 x
  exact ⟨c1, c2, rfl, rfl, c5, c6, c7, c8⟩
theorem line0_ok {w : World} {b : Bool} {tx : Str} (h : Nd w b (cLine0 tx)) : LineOk w b tx 0 := fun L1 L2 i1 i2 hi => by
  have n := h (ix := []) ⟨.nil, rfl⟩
  obtain ⟨code, pre, dl, ul, um, pf, fl, zq, a1, a2, a3, a4⟩ := n.same
  refine ⟨⟨(0, 0, fun _ => 0, fun _ => #[])⟩, fun c => fcall 918 [.str tx (tokAt c 0)], [(i1, L1, dictish), (i2, L2, dictish)], 300, 2400, [(i1, L1), (i2, L2)], [], some [L1, L2], none, by simpa using hi, by simpa using hi, fun x => ⟨rfl, rfl, rfl, rfl, rfl, rfl, rfl, rfl⟩, ?_⟩
  intro c A h g d tk os R ec hA hD hU hC hp hn hun _ hfl _ hR
  have z := a3 (0, 0, fun _ => 0)
  obtain ⟨c1, c2, c3, c4, c5, c6, c7, c8⟩ := z
  have e1 : (fun c => fcall 918 [.str tx (tokAt c 0)]) = code := c1
  have e2 : ([] : List (Nat × Addr × (Obj → Obj))) = pre := c2
  have e3 : 300 = dl := c3
  have e4 : 2400 = ul := c4
  have e5 : ([] : List (Nat × Fact)) = pf := c5
  have e6 : (none : Option (List Addr)) = fl := c6
  have e7 : (none : Option Addr) = zq := c7
  have e8 : ([] : List (Nat × Addr)) = um := c8
  subst e1; subst e2; subst e3; subst e4; subst e5; subst e6; subst e7; subst e8
  obtain ⟨o1, ho1, _⟩ := hp _ (.head _)
  obtain ⟨o2, ho2, _⟩ := hp _ (.tail _ (.head _))
  refine a4 c A h g d tk os R ec hA hD hU ⟨fun a o e => ⟨(hC.1 a o e).1, fun h => nomatch h⟩, hC.2⟩ (fun p hp => nomatch hp) .nil .nil (fun p hp => nomatch hp) (fun l e => nomatch e) (fun a e => nomatch e) fun x h' q => ?_
  refine hR (x.1, x.2.1, fun _ => x.2.2 0, fun i => if i = 0 then o1.slots else o2.slots) h' ⟨fun b o e _ => q.keep b o e (fun p hp => nomatch hp), q.size, q.grow, fun p hp o ho => ?_, fun p hp => (nomatch hp), .nil, fun F hF => (nomatch hF)⟩
  rcases List.mem_cons.mp hp with rfl | hp
  · have : o = o1 := Option.some.inj (ho.symm.trans ho1)
    subst this
    exact q.keep _ _ ho (fun p hp => nomatch hp)
  rcases List.mem_cons.mp hp with rfl | hp
  · have : o = o2 := Option.some.inj (ho.symm.trans ho2)
    subst this
    exact q.keep _ _ ho (fun p hp => nomatch hp)
  cases hp
noncomputable def nlB (e : Nat) : Blk := match e with
  | 0 => bZ
  | 1 => ⟨[10], 1, true⟩
  | 2 => ⟨[10, 10], 2, true⟩
  | _ => ⟨[10, 10, 10], 3, true⟩
theorem nlB_bl (e : Nat) : Bl (nlB e) := by
  unfold nlB
  split
  · exact .z
  · exact .n1
  · exact .n2
  · exact .n3
theorem nlB_n {e : Nat} (he : e < 4) : (nlB e).n = e ∧ (nlS e).cps.toList = (nlB e).cs := by
  have : e = 0 ∨ e = 1 ∨ e = 2 ∨ e = 3 := by omega
  rcases this with rfl | rfl | rfl | rfl <;> exact ⟨rfl, rfl⟩
theorem txt_b0 (sp b0 : Blk) : ∀ {W : List (Str × Str)}, W ≠ [] → textI (mkI sp b0 W) = b0.cs ++ textI (mkI sp bZ W)
  | [], h => absurd rfl h
  | (kd, vl) :: W, _ => rfl
noncomputable def erW (s : Str) : Nat → List (Str × Str)
  | 0 => [nW "a", (sP, s)]
  | 1 => [nW "a", pW "?", nW "b"]
  | 2 => [nW "a", pW "?", nW "b", pW ":"]
  | 3 => [pW "(", nW "a"]
  | 4 => [nW "a", pW "[", nW "b"]
  | 5 => [nW "f", pW "(", nW "a", pW ","]
  | 6 => [nW "a", pW "."]
  | 7 => [kW "new"]
  | 8 => [kW "typeof"]
  | 9 => [pW "[", nW "a", pW ","]
  | 10 => [nW "a", pW ","]
  | 11 => [nW "a", kW "in"]
  | _ => [nW "a", pW "||"]
theorem erW_ok (w : World) {s : Str} (hs : s ∈ signsL) (j : Nat) : LzL w (erW s j) ∧ erW s j ≠ [] := by
  unfold erW
  split
  · refine ⟨fun p hp => ?_, by simp⟩
    rcases List.mem_cons.mp hp with rfl | hp
    · exact wds_ok (l := [nW "a"]) (by rfl') _ (.head _)
    · rw [List.mem_singleton.mp hp]; exact lz_pu (sg_pu w hs)
  all_goals exact ⟨wds_ok (by rfl'), by simp⟩
theorem er_txt (s : Str) : ∀ j : Nat, (erS s j).cps.toList = textI (mkI bS bZ (erW s j))
  | 0 => by
    show (Z "a " ++ s).cps.toList = textI (mkI bS bZ [nW "a", (sP, s)])
    rw [cat_list]
    have : (Z "a ").cps.toList = [97, 32] := by decide +kernel
    rw [this]
    show _ = [] ++ ((Z "a").cps.toList ++ ([32] ++ (s.cps.toList ++ [])))
    have : (Z "a").cps.toList = [97] := by decide +kernel
    rw [this]; simp
  | 1 => by show (Z "a ? b").cps.toList = textI (mkI bS bZ [nW "a", pW "?", nW "b"]); decide +kernel
  | 2 => by show (Z "a ? b :").cps.toList = textI (mkI bS bZ [nW "a", pW "?", nW "b", pW ":"]); decide +kernel
  | 3 => by show (Z "( a").cps.toList = textI (mkI bS bZ [pW "(", nW "a"]); decide +kernel
  | 4 => by show (Z "a [ b").cps.toList = textI (mkI bS bZ [nW "a", pW "[", nW "b"]); decide +kernel
  | 5 => by show (Z "f ( a ,").cps.toList = textI (mkI bS bZ [nW "f", pW "(", nW "a", pW ","]); decide +kernel
  | 6 => by show (Z "a .").cps.toList = textI (mkI bS bZ [nW "a", pW "."]); decide +kernel
  | 7 => by show (Z "new").cps.toList = textI (mkI bS bZ [kW "new"]); decide +kernel
  | 8 => by show (Z "typeof").cps.toList = textI (mkI bS bZ [kW "typeof"]); decide +kernel
  | 9 => by show (Z "[ a ,").cps.toList = textI (mkI bS bZ [pW "[", nW "a", pW ","]); decide +kernel
  | 10 => by show (Z "a ,").cps.toList = textI (mkI bS bZ [nW "a", pW ","]); decide +kernel
  | 11 => by show (Z "a in").cps.toList = textI (mkI bS bZ [nW "a", kW "in"]); decide +kernel
  | n + 12 => by show (Z "a ||").cps.toList = textI (mkI bS bZ [nW "a", pW "||"]); decide +kernel
theorem bS_bl : Bl bS ∧ bS.cs ≠ [] := ⟨.s, by simp⟩
theorem er_line (w : World) (b : Bool) (tx : Str) {s : Str} (hs : s ∈ signsL) (b0 b1 : Blk) {j : Nat} (hj : j < 13) (h : Chain w b tx kS (mkI bS b0 (erW s j) ++ [endI b1])) : LineOk w b tx ((1 + b0.n + b1.n : Nat) : Int) := by
  have q := lt13 j hj
  rcases q with rfl | rfl | rfl | rfl | rfl | rfl | rfl | rfl | rfl | rfl | rfl | rfl | rfl
  · obtain ⟨a0, a1, a2, _⟩ := h
    exact ln_to (fun L1 L2 i1 i2 hi => ln0 w b tx _ _ _ _ (first_of a0) hs (nxt_of a1) (nxt_of a2) L1 L2 hi) rfl
  · obtain ⟨a0, a1, a2, a3, _⟩ := h
    exact ln_to (fun L1 L2 i1 i2 hi => ln1 w b tx _ _ _ _ (first_of a0) (nxt_of a1) (nxt_of a2) (nxt_of a3) L1 L2 hi) rfl
  · obtain ⟨a0, a1, a2, a3, a4, _⟩ := h
    exact ln_to (fun L1 L2 i1 i2 hi => ln2 w b tx _ _ _ _ _ (first_of a0) (nxt_of a1) (nxt_of a2) (nxt_of a3) (nxt_of a4) L1 L2 hi) rfl
  · obtain ⟨a0, a1, a2, _⟩ := h
    exact ln_to (fun L1 L2 i1 i2 hi => ln3 w b tx _ _ _ (first_of a0) (nxt_of a1) (nxt_of a2) L1 L2 hi) rfl
  · obtain ⟨a0, a1, a2, a3, _⟩ := h
    exact ln_to (fun L1 L2 i1 i2 hi => ln4 w b tx _ _ _ _ (first_of a0) (nxt_of a1) (nxt_of a2) (nxt_of a3) L1 L2 hi) rfl
  · obtain ⟨a0, a1, a2, a3, a4, _⟩ := h
    exact ln_to (fun L1 L2 i1 i2 hi => ln5 w b tx _ _ _ _ _ (first_of a0) (nxt_of a1) (nxt_of a2) (nxt_of a3) (nxt_of a4) L1 L2 hi) rfl
  · obtain ⟨a0, a1, a2, _⟩ := h
    exact ln_to (fun L1 L2 i1 i2 hi => ln6 w b tx _ _ _ (first_of a0) (nxt_of a1) (nxt_of a2) L1 L2 hi) rfl
  · obtain ⟨a0, a1, _⟩ := h
    exact ln_to (fun L1 L2 i1 i2 hi => ln7 w b tx _ _ (first_of a0) (nxt_of a1) L1 L2 hi) rfl
  · obtain ⟨a0, a1, _⟩ := h
    exact ln_to (fun L1 L2 i1 i2 hi => ln8 w b tx _ _ (first_of a0) (nxt_of a1) L1 L2 hi) rfl
  · obtain ⟨a0, a1, a2, a3, _⟩ := h
    exact ln_to (fun L1 L2 i1 i2 hi => ln9 w b tx _ _ _ _ (first_of a0) (nxt_of a1) (nxt_of a2) (nxt_of a3) L1 L2 hi) rfl
  · obtain ⟨a0, a1, a2, _⟩ := h
    exact ln_to (fun L1 L2 i1 i2 hi => ln10 w b tx _ _ _ (first_of a0) (nxt_of a1) (nxt_of a2) L1 L2 hi) rfl
  · obtain ⟨a0, a1, a2, _⟩ := h
    exact ln_to (fun L1 L2 i1 i2 hi => ln11 w b tx _ _ _ (first_of a0) (nxt_of a1) (nxt_of a2) L1 L2 hi) rfl
  · obtain ⟨a0, a1, a2, _⟩ := h
    exact ln_to (fun L1 L2 i1 i2 hi => ln12 w b tx _ _ _ (first_of a0) (nxt_of a1) (nxt_of a2) L1 L2 hi) rfl
theorem fdiv2 {e : Nat} (he : e < 4) : Int.fdiv ((e : Nat) : Int) 2 = ((e / 2 : Nat) : Int) := by
  have : e = 0 ∨ e = 1 ∨ e = 2 ∨ e = 3 := by omega
  rcases this with rfl | rfl | rfl | rfl <;> decide
theorem er_ok (w : World) (b : Bool) {s : Str} (hs : s ∈ signsL) {j e : Nat} (hj : j < 13) (he : e < 4) : LineOk w b (nlS e ++ erS s j ++ nlS (e / 2)) (1 + (e : Nat) + Int.fdiv (e : Nat) 2) := by
  have hw := erW_ok w hs j
  have he2 : e / 2 < 4 := by omega
  have ht : (nlS e ++ erS s j ++ nlS (e / 2)).cps.toList = textI (mkI bS (nlB e) (erW s j) ++ [endI (nlB (e / 2))]) := by
    rw [textI_app, txt_b0 _ _ hw.2, cat_list, cat_list, er_txt, (nlB_n he).2, (nlB_n he2).2]
    show _ = _ ++ ((nlB (e / 2)).cs ++ ([] ++ []))
    simp
  have hlen : (nlS e ++ erS s j ++ nlS (e / 2)).length < 2 ^ 62 := by
    have := er_len (sg_len hs) j
    rw [str_app, str_app, nlS_len, nlS_len]
    omega
  have hc := chain_ok w b (tx := nlS e ++ erS s j ++ nlS (e / 2)) _ kS ((mk_sep bS_bl.1 bS_bl.2 hw.1 hw.2 (nlB_bl e)).ok (nlB_bl (e / 2))) ⟨by rw [← ht]; rfl, Nat.zero_le _, hlen⟩
  have z := er_line w b _ hs _ _ hj hc
  rw [(nlB_n he).1, (nlB_n he2).1] at z
  have e1 : ((1 + e + e / 2 : Nat) : Int) = 1 + (e : Nat) + Int.fdiv (e : Nat) 2 := by
    rw [fdiv2 he]; omega
  rw [e1] at z
  exact z
noncomputable def tgI : Nat → List (Str × Str)
  | 0 => [nW "f", pW "(", nW "a"]
  | 1 => [pW "(", nW "a", pW "+", nW "b"]
  | 2 => [pW "-"]
  | 3 => []
  | 4 => [nW "a", pW "?", nW "b", pW ":"]
  | _ => [nW "a"]
noncomputable def tgE : Nat → Str × Str
  | 0 => pW ")"
  | 1 => pW ")"
  | 2 => nW "a"
  | 3 => kW "this"
  | 4 => nW "c"
  | _ => pW "++"
theorem tg_txt : ∀ q : Nat, (tgS q).cps.toList = textI (mkI bS bZ (tgI q ++ [tgE q]))
  | 0 => by decide +kernel
  | 1 => by decide +kernel
  | 2 => by decide +kernel
  | 3 => by decide +kernel
  | 4 => by decide +kernel
  | n + 5 => by show (Z "a ++").cps.toList = textI (mkI bS bZ [nW "a", pW "++"]); decide +kernel
theorem tgI_ok (w : World) (q : Nat) : LzL w (tgI q) := by
  unfold tgI
  split <;> exact wds_ok (by rfl')
theorem tgE_ok (w : World) (q : Nat) {rest : List Nat} (h : StopsL rest) : LexOk w (tgE q).1 (tgE q).2 rest := by
  have nm : ∀ {s : Str} (c : Nat), s = sC [c] → Letter c → LexOk w sN s rest := fun c e hc => by subst e; exact .nm hc h
  have kw : ∀ {s : Str} (l : List Nat), s = sC l → l ∈ kwL → LexOk w sK s rest := fun l e hl => by subst e; exact .kw hl h
  unfold tgE
  split
  · exact lz_so (by rfl') rest
  · exact lz_so (by rfl') rest
  · exact nm 97 (by decide +kernel) (by decide)
  · exact kw [116, 104, 105, 115] (by decide +kernel) (by decide)
  · exact nm 99 (by decide +kernel) (by decide)
  · exact lz_so (by rfl') rest
theorem mk_ok {w : World} {sp : Blk} (hs : Bl sp) (hn : sp.cs ≠ []) {tl : List It} (ht : OkI w tl) {kd vl : Str} (hl : LexOk w kd vl (textI tl)) : ∀ {W : List (Str × Str)} {b0 : Blk}, LzL w W → Bl b0 → OkI w (mkI sp b0 (W ++ [(kd, vl)]) ++ tl)
  | [], b0, _, hb => ⟨hb, hl, ht⟩
  | [(kd', vl')], b0, h, hb => ⟨hb, h _ (.head _) _ (bk_bl hs hn _), hs, hl, ht⟩
  | (kd', vl') :: (kd2, vl2) :: W, b0, h, hb => ⟨hb, h _ (.head _) _ (bk_bl hs hn _), mk_ok hs hn ht hl (W := (kd2, vl2) :: W) (fun p hp => h p (.tail _ hp)) hs⟩
noncomputable def tlI (e : Nat) (s : Str) : List It := [⟨nlB e, sP, s⟩, ⟨bS, sN, Z "b"⟩] ++ [endI bZ]
theorem tl_ok (w : World) (e : Nat) {s : Str} (hs : s ∈ signsL) : OkI w (tlI e s) :=
  (Sep.cons _ _ _ (lz_pu (sg_pu w hs)) (nlB_bl e) bS_bl.2 (.one _ (lz_nm 98 (by decide +kernel) (by decide)) bS_bl.1)).ok .z
theorem tl_stops (e : Nat) {s : Str} (hs : s ∈ signsL) : StopsL (textI (tlI e s)) := by
  obtain ⟨c, r, e1, hc⟩ := sg_hd hs
  show StopsL ((nlB e).cs ++ (s.cps.toList ++ _))
  rw [e1]
  unfold nlB
  split
  · exact .inr ⟨c, _, rfl, .inr (.inr hc)⟩
  · exact .inr ⟨10, _, rfl, .inl rfl⟩
  · exact .inr ⟨10, _, rfl, .inl rfl⟩
  · exact .inr ⟨10, _, rfl, .inl rfl⟩
theorem exUp2 {w : World} {b : Bool} {D U : Nat} {R : Rd} {c : Cu} {kE : Tk} {can : Bool} {T : Tr} (h : NdV w b D U (cEx R c kE can T 200 1600)) (hd : 200 + D ≤ 260) (hu : 1600 + U ≤ 2000) : Nd w b (cExN R c kE can 260 2000) :=
  n_exN (T := T) (D := 260) (U := 2000) fun {ix} I => (h (ix := ix) ⟨I.nd, I.len⟩).shift (C' := cEx R c kE can T 260 2000) rfl hd hu
theorem cond_line (w : World) (b : Bool) (tx : Str) (k0 k1 k2 k3 k4 k5 k6 k7 : Tk) {s : Str} (hs : s ∈ signsL) (hx : First w b tx (tN k0 "a")) (h0 : NxtA w b tx (tN k0 "a") (tP k1 "?")) (h1 : NxtA w b tx (tP k1 "?") (tN k2 "b")) (h2 : NxtA w b tx (tN k2 "b") (tP k3 ":")) (h3 : NxtA w b tx (tP k3 ":") (tN k4 "c")) (h4 : NxtA w b tx (tN k4 "c") (k5.as sP s)) (h5 : NxtA w b tx (k5.as sP s) (tN k6 "b")) (h6 : NxtA w b tx (tN k6 "b") (tE k7)) : LineOk w b tx 0 := by
  exact line0_ok (n_line0 w b tx (tN k0 "a") k7 (fun {ix} I => n_init w b tx _ hx I) fun R a hw ht => exUp2 (ex0e w b R 0 a (tN k0 "a") k7 true _ _ _ hw (by decide) fun a2 => cdr w b R 0 a2 k0 k1 k2 k3 (tN k4 "c") k7 true _ _ _ hw (by decide) (h0 R hw ht) (h1 R hw ht) (h2 R hw ht) (h3 R hw ht) fun a3 => lkc w b R (0 + 1) a3 k4 k5 (tN k6 "b") (tE k7) s true _ _ _ hw (by decide) hs (h4 R hw ht) (h5 R hw ht) fun a4 => op0 w b R (0 + 1 + 1) a4 k6 k7 true hw (by decide) (h6 R hw ht)) (by decide) (by decide))
theorem tg_line (w : World) (b : Bool) (tx : Str) {s : Str} (hs : s ∈ signsL) (e : Nat) {q : Nat} (hq : q < 6) (h : Chain w b tx kS (mkI bS bZ (tgI q ++ [tgE q]) ++ tlI e s)) : (q = 4 → LineOk w b tx 0) ∧ (q ≠ 4 → LineOk w b tx ((1 + (nlB e).n : Nat) : Int)) := by
  have z : q = 0 ∨ q = 1 ∨ q = 2 ∨ q = 3 ∨ q = 4 ∨ q = 5 := by omega
  rcases z with rfl | rfl | rfl | rfl | rfl | rfl
  · refine ⟨fun e => absurd e (by decide), fun _ => ?_⟩
    obtain ⟨a0, a1, a2, a3, a4, _⟩ := h
    exact ln_to (fun L1 L2 i1 i2 hi => lt0 w b tx _ _ _ _ _ _ (first_of a0) hs (nxt_of a1) (nxt_of a2) (nxt_of a3) (nxt_of a4) L1 L2 hi) rfl
  · refine ⟨fun e => absurd e (by decide), fun _ => ?_⟩
    obtain ⟨a0, a1, a2, a3, a4, a5, _⟩ := h
    exact ln_to (fun L1 L2 i1 i2 hi => lt1 w b tx _ _ _ _ _ _ _ (first_of a0) hs (nxt_of a1) (nxt_of a2) (nxt_of a3) (nxt_of a4) (nxt_of a5) L1 L2 hi) rfl
  · refine ⟨fun e => absurd e (by decide), fun _ => ?_⟩
    obtain ⟨a0, a1, a2, _⟩ := h
    exact ln_to (fun L1 L2 i1 i2 hi => lt2 w b tx _ _ _ _ (first_of a0) hs (nxt_of a1) (nxt_of a2) L1 L2 hi) rfl
  · refine ⟨fun e => absurd e (by decide), fun _ => ?_⟩
    obtain ⟨a0, a1, _⟩ := h
    exact ln_to (fun L1 L2 i1 i2 hi => lt3 w b tx _ _ _ (first_of a0) hs (nxt_of a1) L1 L2 hi) rfl
  · refine ⟨fun _ => ?_, fun e => absurd rfl e⟩
    obtain ⟨a0, a1, a2, a3, a4, a5, a6, a7, _⟩ := h
    exact cond_line w b tx _ _ _ _ _ _ _ _ hs (first_of a0) (nxt_of a1) (nxt_of a2) (nxt_of a3) (nxt_of a4) (nxt_of a5) (nxt_of a6) (nxt_of a7)
  · refine ⟨fun e => absurd e (by decide), fun _ => ?_⟩
    obtain ⟨a0, a1, a2, _⟩ := h
    exact ln_to (fun L1 L2 i1 i2 hi => lt5 w b tx (It.pk ⟨bZ, sN, Z "a"⟩ kS) (It.pk ⟨bS, sP, Z "++"⟩ (It.tk ⟨bZ, sN, Z "a"⟩ kS)) _ _ (first_of a0) hs (nxt_of a1) (nxt_of a2) L1 L2 hi) rfl
theorem tg_ok (w : World) (b : Bool) {s : Str} (hs : s ∈ signsL) {q e : Nat} (hq : q < 6) (he : e < 4) : (q = 4 → LineOk w b (tgS q ++ nlS e ++ s ++ Z " b") 0) ∧ (q ≠ 4 → LineOk w b (tgS q ++ nlS e ++ s ++ Z " b") (1 + (e : Nat))) := by
  have ht : (tgS q ++ nlS e ++ s ++ Z " b").cps.toList = textI (mkI bS bZ (tgI q ++ [tgE q]) ++ tlI e s) := by
    rw [textI_app, cat_list, cat_list, cat_list, tg_txt, (nlB_n he).2]
    have : (Z " b").cps.toList = [32, 98] := by decide +kernel
    rw [this]
    show _ = _ ++ ((nlB e).cs ++ (s.cps.toList ++ ([32] ++ ((Z "b").cps.toList ++ ([] ++ ([] ++ []))))))
    have : (Z "b").cps.toList = [98] := by decide +kernel
    rw [this]; simp
  have hlen : (tgS q ++ nlS e ++ s ++ Z " b").length < 2 ^ 62 := by
    have := tg_len q
    have := sg_len hs
    have : (Z " b").length = 2 := by decide
    rw [str_app, str_app, str_app, nlS_len]
    omega
  have hc := chain_ok w b (tx := tgS q ++ nlS e ++ s ++ Z " b") _ kS (mk_ok bS_bl.1 bS_bl.2 (tl_ok w e hs) (tgE_ok w q (tl_stops e hs)) (tgI_ok w q) .z) ⟨by rw [← ht]; rfl, Nat.zero_le _, hlen⟩
  have z := tg_line w b _ hs e hq hc
  rw [(nlB_n he).1] at z
  have e1 : ((1 + e : Nat) : Int) = 1 + (e : Nat) := by omega
  rw [e1] at z
  exact z
theorem pieceCP {P : Par} {A : Around} {g : Array GenState} {d : Drawn} {os : OsState} {R : Result → Shared → Prop} {h : Heap} {L : Addr} (E : Env0 P A) (hcs : ∃ o, P.kt.get cStatics = some o) {j0 : Nat} {tk : Nat} {sl : List Slot} {O : List Fact} (M : Mid P sl O h) {n ks : Nat} {r : Result} (H : PV P fun l => Same (cutCT P L j0 n ks l ⟨sl, h.objs.size, tk, O⟩ r))
    (K : ∀ h' tk', (∀ b o, h.get? b = some o → b ∉ upA sl → h'.get? b = some o) → h.objs.size ≤ h'.objs.size → R r ⟨h', g, d, tk', os⟩) : At0 P A g d os R L j0 h tk := by
  obtain ⟨T, v, H⟩ := H
  exact pieceC E hcs M T v n ks r H K
abbrev Pw (w : World) (b bi : Bool) : Par := parF (wI w bi) b 690 9000
structure Gl (h₀ : Heap) (L pen s2 : Addr) (vs : List Value) (n2 : Nat) (c sm : Int) (tc ts : Nat) (oL : Obj) (h : Heap) : Prop where
  keep : ∀ a o, h₀.get? a = some o → h.get? a = some o
  grow : h₀.objs.size ≤ h.objs.size
  nol : h.NoLimit
  fr : h.get? L = some oL
  cell : h.get? (Nat.succ L) = some (cellO (.ref pen))
  pn : h.get? pen = some (penO s2 c sm tc ts 0)
  sc : h.get? s2 = some (listN vs n2)
  nd : [L, Nat.succ L, pen, s2].Nodup
  hL : h₀.objs.size ≤ L
  hp : h₀.objs.size ≤ pen
section
variable {P : Par} {h₀ h : Heap} {L pen s2 : Addr} {vs : List Value} {n2 : Nat} {c sm : Int} {tc ts : Nat} {oL : Obj}
theorem Gl.top (G : Gl h₀ L pen s2 vs n2 c sm tc ts oL h) (ht : ∀ a o, P.kt.get a = some o → h₀.get? a = some o) {a : Addr} {o : Obj} (e : P.kt.get a = some o) : h.get? a = some o ∧ a ≠ L ∧ a ≠ pen := by
  have lt := Heap.lt_size (ht a o e)
  exact ⟨G.keep a o (ht a o e), Nat.ne_of_lt (Nat.lt_of_lt_of_le lt G.hL), Nat.ne_of_lt (Nat.lt_of_lt_of_le lt G.hp)⟩
theorem Gl.mid (G : Gl h₀ L pen s2 vs n2 c sm tc ts oL h) (ht : ∀ a o, P.kt.get a = some o → h₀.get? a = some o) : Mid P [⟨L, oL, true⟩, ⟨Nat.succ L, cellO (.ref pen), false⟩, ⟨pen, penO s2 c sm tc ts 0, true⟩, ⟨s2, listN vs n2, false⟩] [] h where
  top := fun a o e => by
    obtain ⟨h1, h2, h3⟩ := G.top ht e
    refine ⟨h1, fun s hs hu => ?_⟩
    rcases List.mem_cons.mp hs with rfl | hs
    · exact h2
    rcases List.mem_cons.mp hs with rfl | hs
    · cases hu
    rcases List.mem_cons.mp hs with rfl | hs
    · exact h3
    rcases List.mem_cons.mp hs with rfl | hs
    · cases hu
    cases hs
  nol := G.nol
  own := fun s hs => by
    rcases List.mem_cons.mp hs with rfl | hs
    · exact G.fr
    rcases List.mem_cons.mp hs with rfl | hs
    · exact G.cell
    rcases List.mem_cons.mp hs with rfl | hs
    · exact G.pn
    rcases List.mem_cons.mp hs with rfl | hs
    · exact G.sc
    cases hs
  nd := G.nd
  fact := fun F hF => nomatch hF
theorem Gl.nes (G : Gl h₀ L pen s2 vs n2 c sm tc ts oL h) : L ≠ pen ∧ Nat.succ L ≠ L ∧ Nat.succ L ≠ pen ∧ s2 ≠ L ∧ s2 ≠ pen := by
  have := G.nd
  simp only [List.nodup_cons, List.mem_cons, List.not_mem_nil, or_false, not_or] at this
  obtain ⟨⟨a, b, c⟩, ⟨d, e⟩, f, _⟩ := this
  exact ⟨b, fun q => a q.symm, d, fun q => c q.symm, fun q => f q.symm⟩
theorem Gl.step {M : List Addr} {O : List Fact} {ups adds : List (Addr × Obj)} {fs : List Fact} {h' : Heap} {c' : Int} {tc' : Nat} {oL' : Obj} (G : Gl h₀ L pen s2 vs n2 c sm tc ts oL h) (X : Fin1 h M O ups adds fs h') (hM : ∀ a ∈ M, a = L ∨ a = pen) (hcs : ∃ o, h₀.get? cStatics = some o) (h1 : h'.get? L = some oL') (h2 : h'.get? pen = some (penO s2 c' sm tc' ts 0)) : Gl h₀ L pen s2 vs n2 c' sm tc' ts oL' h' := by
  obtain ⟨n1, n2, n3, n4, n5⟩ := G.nes
  have nm : ∀ {a : Addr}, a ≠ L → a ≠ pen → a ∉ M := fun h1 h2 hm => (hM _ hm).elim h1 h2
  have old : ∀ a o, h₀.get? a = some o → h'.get? a = some o := fun a o e => by
    have lt := Heap.lt_size e
    exact X.keep a o (G.keep a o e) (nm (Nat.ne_of_lt (Nat.lt_of_lt_of_le lt G.hL)) (Nat.ne_of_lt (Nat.lt_of_lt_of_le lt G.hp)))
  refine ⟨old, Nat.le_trans G.grow X.grow, nolimit_keep G.nol fun o e => ?_, h1, X.keep _ _ G.cell (nm n2 n3), h2, X.keep _ _ G.sc (nm n4 n5), G.nd, G.hL, G.hp⟩
  obtain ⟨o', ho⟩ := hcs
  have e2 := G.keep _ _ ho
  rw [e] at e2
  cases e2
  exact old _ _ ho
end
abbrev TreeAt (P : Params) (lo : Nat) (h : Heap) (v : Value) (T : Tr) : Prop := IsTree P lo h.objs.size h v T
theorem tree_step {P : Params} {lo : Nat} {h h' : Heap} {M : List Addr} {O : List Fact} {ups adds : List (Addr × Obj)} {fs : List Fact} {v : Value} {T : Tr} (X : Fin1 h M O ups adds fs h') (hM : ∀ a ∈ M, a < lo) (t : TreeAt P lo h v T) : TreeAt P lo h' v T :=
  IsTree.mono (Nat.le_refl _) X.grow (fun b o h1 _ e => X.keep b o e fun hm => Nat.lt_irrefl _ (Nat.lt_of_lt_of_le (hM b hm) h1)) t
theorem kcs (P : Params) : (ktOf P).get cStatics = some (o2 P) := kt2 P
noncomputable def GoodR (R : Result → Shared → Prop) (h₀ : Heap) (g : Array GenState) (d : Drawn) (os : OsState) : Prop := ∀ h' tk, (∀ a o, h₀.get? a = some o → h'.get? a = some o) → h₀.objs.size ≤ h'.objs.size → R (.ok (.ret (.bool true))) ⟨h', g, d, tk, os⟩
theorem upA4 (L x pen y : Addr) (a b c e : Obj) : upA [⟨L, a, true⟩, ⟨x, b, false⟩, ⟨pen, c, true⟩, ⟨y, e, false⟩] = [L, pen] := rfl
theorem mem2 {L pen a : Addr} (h : a ∈ [L, pen]) : a = L ∨ a = pen := by simpa using h
theorem pick_nat (xs : List (Int × Nat)) (sm : Int) (c : Nat) {many : Nat} (h : 0 < many) : ∃ r : Nat, r < many ∧ pickV xs sm c many = r := by
  obtain ⟨h1, h2⟩ := pickV_rng xs sm c h
  exact ⟨(pickV xs sm c many).toNat, by omega, by omega⟩
theorem sign_at {g : Nat} (h : g < 12) : ∃ s, signsL[g]? = some s ∧ s ∈ signsL := by
  have hl : g < signsL.length := h
  exact ⟨signsL[g], List.getElem?_eq_getElem hl, List.getElem_mem hl⟩
section
variable {w : World} {b bi : Bool} {A : Around} {g : Array GenState} {d : Drawn} {os : OsState} {R : Result → Shared → Prop} {h₀ h : Heap} {L pen s2 : Addr} {vs : List Value} {n2 : Nat} {sm : Int} {tc ts : Nat} {oL : Obj}
theorem g5 (E : Env0 (Pw w b bi) A) (ht : ∀ a o, (Pw w b bi).kt.get a = some o → h₀.get? a = some o) (HR : GoodR R h₀ g d os) {xs : List (Int × Nat)} (hv : vs = intL xs) (hx : xs.length < 100) {c : Nat} (hc : c < 35)
    {oc : Value} {od : Option Addr} {es : Array DictEntry} {en : Nat} {so : Array (Option Value)} (G : Gl h₀ L pen s2 vs n2 c sm tc ts ⟨oc, od, .dict es en, so⟩ h) (tk : Nat) : At0 (Pw w b bi) A g d os R L 8 h tk := by
  obtain ⟨g1, hg1, p0⟩ := pick_nat xs sm (c + 0) (many := 12) (by decide)
  obtain ⟨j, hj, p1⟩ := pick_nat xs sm (c + 1) (many := 13) (by decide)
  obtain ⟨e, he, p2⟩ := pick_nat xs sm (c + 2) (many := 4) (by decide)
  obtain ⟨q, hq, p3⟩ := pick_nat xs sm (c + 3) (many := 6) (by decide)
  obtain ⟨g2, hg2, p4⟩ := pick_nat xs sm (c + 4) (many := 12) (by decide)
  obtain ⟨s1, e1, m1⟩ := sign_at hg1
  obtain ⟨s3, e3, m3⟩ := sign_at hg2
  have l1 := er_ok (wI w bi) b m1 hj he
  have lt := tg_ok (wI w bi) b m3 hq he
  have fin : ∀ h' tk', (∀ b o, h.get? b = some o → b ∉ upA [⟨L, ⟨oc, od, .dict es en, so⟩, true⟩, ⟨Nat.succ L, cellO (.ref pen), false⟩, ⟨pen, penO s2 c sm tc ts 0, true⟩, ⟨s2, listN vs n2, false⟩] → h'.get? b = some o) → h.objs.size ≤ h'.objs.size → R (.ok (.ret (.bool true))) ⟨h', g, d, tk', os⟩ := fun h' tk' k1 k2 => by
    refine HR h' tk' (fun a o ea => k1 a o (G.keep a o ea) fun hm => ?_) (Nat.le_trans G.grow k2)
    rw [upA4] at hm
    have lt := Heap.lt_size ea
    rcases mem2 hm with z | z
    · exact Nat.ne_of_lt (Nat.lt_of_lt_of_le lt G.hL) z
    · exact Nat.ne_of_lt (Nat.lt_of_lt_of_le lt G.hp) z
  have hd := fdiv2 he
  have hn : ((1 + (e : Nat) + Int.fdiv (e : Nat) 2 : Int) != 1 + (e : Nat) + Int.fdiv (e : Nat) 2) = false := by simp
  have hk : ((tgS q).cps.toList == (Z "a ? b : c").cps.toList) = decide (q = 4) := by
    have z : q = 0 ∨ q = 1 ∨ q = 2 ∨ q = 3 ∨ q = 4 ∨ q = 5 := by omega
    rcases z with rfl | rfl | rfl | rfl | rfl | rfl <;> decide +kernel
  by_cases h4 : q = 4
  · exact pieceCP E ⟨_, kcs _⟩ (G.mid ht) (p_p5_c w b bi L pen s2 oc od es en so vs xs n2 c sm tc ts g1 j e q g2 s1 s3 hv hx hc p0 p1 p2 p3 p4 e1 e3 hj he hq hg1 hg2 (sg_len m1) (sg_len m3) hd hn l1 (by rw [hk]; exact decide_eq_true h4) (lt.1 h4) _ _) fin
  · exact pieceCP E ⟨_, kcs _⟩ (G.mid ht) (p_p5_n w b bi L pen s2 oc od es en so vs xs n2 c sm tc ts g1 j e q g2 s1 s3 hv hx hc p0 p1 p2 p3 p4 e1 e3 hj he hq hg1 hg2 (sg_len m1) (sg_len m3) hd hn l1 (by rw [hk]; exact decide_eq_false h4) (lt.2 h4) _ _) fin
end
theorem oX_len : ∀ i : Nat, (oX i).length ≤ 20
  | 0 => by decide
  | 1 => by decide
  | 2 => by decide
  | 3 => by decide
  | 4 => by decide
  | 5 => by decide
  | 6 => by decide
  | 7 => by decide
  | 8 => by decide
  | 9 => by decide
  | 10 => by decide
  | n + 11 => by show (Z "- b in c").length ≤ 20; decide
theorem lksX_len (i : Nat) : ∀ {l : List (Nat × Str)}, (∀ p ∈ l, p.1 < 3 ∧ p.2 ∈ signsL) → l.length ≤ 5 → (lksX i l).length ≤ 20 + 13 * l.length
  | [], _, _ => oX_len i
  | (m, s) :: l, h, h5 => by
    have h5' : l.length ≤ 4 := by rw [List.length_cons] at h5; omega
    have ih := lksX_len i (l := l) (fun p hp => h p (.tail _ hp)) (by omega)
    have z := lkX_len (m := m) (s := s) (X := lksX i l) (h _ (.head _)).2 (by omega)
    show (lkX m s (lksX i l)).length ≤ 20 + 13 * (l.length + 1)
    omega
theorem mainX_len {e : Nat} (he : e < 2) (c : Bool) (i : Nat) {l : List (Nat × Str)} (hl : ∀ p ∈ l, p.1 < 3 ∧ p.2 ∈ signsL) (h3 : l.length ≤ 3) : (mainX e c i l).length < 2 ^ 62 := by
  have q : e = 0 ∨ e = 1 := by omega
  have hs : Z " " = ⟨#[32]⟩ := by decide +kernel
  have h0 : (cmX c (lksX i l)).length ≤ 100 := by
    have := lksX_len i hl (by omega)
    cases c with
    | false => show (lksX i l).length ≤ 100; omega
    | true =>
      show (zS ++ lksX i l).length ≤ 100
      have : zS.length = 4 := by decide
      rw [str_app]; omega
  have main : ∀ d : Nat, (Txt.replace (cmX c (lksX i l)) ⟨#[32]⟩ ⟨#[d]⟩).length ≤ 100 := fun d => by
    rw [str_len, repl_list, List.length_map, ← str_len]
    exact h0
  unfold mainX
  rcases q with rfl | rfl
  · have hr : rpS 0 = ⟨#[10]⟩ := by decide +kernel
    rw [hs, hr]
    have := main 10
    omega
  · have hr : rpS 1 = ⟨#[32]⟩ := by decide +kernel
    rw [hs, hr]
    have := main 32
    omega
structure TrOk (d : Nat) (T : Tr) : Prop where
  ok : RowOk T
  dep : T.dep ≤ d
  nd : ∃ kd l, T = .node kd l
theorem TrOk.lst {d : Nat} {T : Tr} (h : TrOk d T) : ∃ l, rowsOf T = .lst l := by
  obtain ⟨kd, l, rfl⟩ := h.nd
  exact ⟨_, rfl⟩
theorem ok_nm (s : String) : RowOk (nmN s) := .s _ _
theorem ok_bi (g : String) {x y : Tr} (hx : RowOk x) (hy : RowOk y) : RowOk (biN g x y) := .srr _ _ hx hy
theorem oRT_ok : ∀ i : Nat, TrOk 4 (oRT i)
  | 0 => ⟨ok_nm _, by decide, _, _, rfl⟩
  | 1 => ⟨ok_bi _ (ok_nm _) (ok_nm _), by decide, _, _, rfl⟩
  | 2 => ⟨ok_bi _ (ok_nm _) (ok_nm _), by decide, _, _, rfl⟩
  | 3 => ⟨ok_bi _ (ok_nm _) (ok_nm _), by decide, _, _, rfl⟩
  | 4 => ⟨.rr _ (ok_nm _) (.lr (ok_bi _ (ok_nm _) (ok_nm _))), by decide, _, _, rfl⟩
  | 5 => ⟨.rrr _ (ok_nm _) (ok_bi _ (ok_nm _) (ok_nm _)) (ok_nm _), by decide, _, _, rfl⟩
  | 6 => ⟨.rrr _ (ok_nm _) (ok_nm _) (ok_bi _ (ok_nm _) (ok_nm _)), by decide, _, _, rfl⟩
  | 7 => ⟨.rr _ (ok_nm _) (ok_bi _ (ok_nm _) (ok_nm _)), by decide, _, _, rfl⟩
  | 8 => ⟨ok_bi _ (ok_nm _) (ok_nm _), by decide, _, _, rfl⟩
  | 9 => ⟨ok_bi _ (ok_bi _ (ok_nm _) (ok_nm _)) (ok_nm _), by decide, _, _, rfl⟩
  | 10 => ⟨.srr _ _ (ok_nm _) (ok_bi _ (ok_nm _) (ok_nm _)), by decide, _, _, rfl⟩
  | n + 11 => ⟨ok_bi _ (.sr _ _ (ok_nm _)) (ok_nm _), by show (biN "in" (.node (Z "Unary") [.str (Z "-"), nmN "b"]) (nmN "c")).dep ≤ 4; decide, _, _, rfl⟩
theorem oRS_ok : ∀ i : Nat, TrOk 4 (oRS i)
  | 0 => oRT_ok 0
  | 1 => oRT_ok 1
  | 2 => ⟨ok_nm _, by decide, _, _, rfl⟩
  | 3 => oRT_ok 3
  | 4 => oRT_ok 4
  | 5 => oRT_ok 5
  | 6 => ⟨.rrr _ (ok_nm _) (ok_nm _) (ok_nm _), by decide, _, _, rfl⟩
  | 7 => oRT_ok 7
  | 8 => oRT_ok 8
  | 9 => ⟨ok_bi _ (ok_nm _) (ok_nm _), by decide, _, _, rfl⟩
  | 10 => ⟨.srr _ _ (ok_nm _) (ok_nm _), by decide, _, _, rfl⟩
  | 11 => ⟨.sr _ _ (ok_nm _), by decide, _, _, rfl⟩
  | n + 12 => oRT_ok (n + 12)
theorem tgT_ok : ∀ m : Nat, RowOk (tgT m) ∧ (tgT m).dep ≤ 2
  | 0 => ⟨ok_nm _, by decide⟩
  | 1 => ⟨.rs _ _ (ok_nm _), by decide⟩
  | n + 2 => ⟨.rr _ (ok_nm _) (ok_nm _), by show (Tr.node (Z "Index") [nmN "x", nmN "y"]).dep ≤ 2; decide⟩
theorem asT_ok (m : Nat) (s : Str) {d : Nat} {T : Tr} (h : TrOk d T) (hd : 2 ≤ d) : TrOk (d + 1) (asT m s T) := by
  refine ⟨.srr _ _ (tgT_ok m).1 h.ok, ?_, _, _, rfl⟩
  have h1 := (tgT_ok m).2
  have h2 := h.dep
  unfold asT
  rw [Tr.dep, depL, depL, depL, depL, Tr.dep]
  omega
theorem lksT_ok {T : Tr} (h : TrOk 4 T) : ∀ l : List (Nat × Str), TrOk (4 + l.length) (lksT l T)
  | [] => h
  | (m, s) :: l => asT_ok m s (lksT_ok h l) (by show 2 ≤ 4 + l.length; omega)
theorem cmT_ok (c : Bool) {T : Tr} {l : List (Nat × Str)} (h : TrOk (4 + l.length) T) (h3 : l.length ≤ 3) : TrOk 9 (cmT c T) := by
  cases c with
  | false => exact ⟨h.ok, Nat.le_trans h.dep (by omega), h.nd⟩
  | true =>
    refine ⟨.r _ (.lrr (ok_nm _) h.ok), ?_, _, _, rfl⟩
    have h1 := h.dep
    have h2 : (nmN "z").dep ≤ 1 := by decide
    show (Tr.node (Z "Comma") [.lst [nmN "z", T]]).dep ≤ 9
    rw [Tr.dep, depL, depL, Tr.dep, depL, depL, depL]
    omega
theorem frame_list {P : Params} {es : List (String × (Nat → Value))} {kk vv : Nat → Nat} {l : List Value} {n : Nat} : frO (dF P es kk vv) ≠ listN l n := fun e => nomatch congrArg Obj.data e
theorem tree_lst {P : Params} {lo hi : Nat} {h : Heap} {a : Addr} {T : Tr} (x : IsTree P lo hi h (.ref a) T) (hT : ∃ l, T = .lst l) : ∃ vs n, h.get? a = some (listN vs n) ∧ lo ≤ a ∧ a < hi := by
  obtain ⟨l, rfl⟩ := hT
  cases x with
  | lst _ n vs _ b1 b2 o r => exact ⟨vs, n, o, b1, b2⟩
theorem upA3 (L x y : Addr) (a b c : Obj) : upA [⟨L, a, true⟩, ⟨x, b, false⟩, ⟨y, c, false⟩] = [L] := rfl
section
variable {w : World} {b bi : Bool} {A : Around} {g : Array GenState} {d : Drawn} {os : OsState} {R : Result → Shared → Prop} {h₀ h : Heap} {L pen s2 : Addr} {vs : List Value} {n2 : Nat} {sm : Int} {tc ts : Nat} {oF : Obj}
theorem Gl.mid4 {P : Par} {c : Int} (G : Gl h₀ L pen s2 vs n2 c sm tc ts oF h) (ht : ∀ a o, P.kt.get a = some o → h₀.get? a = some o) {PP : Params} {lo : Nat} (hlo : L < lo) {tr sh : Addr} {vt vh : List Value} {nt nh : Nat} {T1 T2 : Tr} (o1 : h.get? tr = some (listN vt nt)) (o2 : h.get? sh = some (listN vh nh)) (n1 : L ≠ tr) (n2' : L ≠ sh) (n3 : tr ≠ sh) (t1 : TreeAt PP lo h (.ref tr) T1) (t2 : TreeAt PP lo h (.ref sh) T2) :
    Mid P [⟨L, oF, true⟩, ⟨tr, listN vt nt, false⟩, ⟨sh, listN vh nh, false⟩] [treeF PP lo h.objs.size (.ref tr) T1, treeF PP lo h.objs.size (.ref sh) T2] h where
  top := fun a o e => by
    obtain ⟨h1, h2, h3⟩ := G.top ht e
    refine ⟨h1, fun s hs hu => ?_⟩
    rcases List.mem_cons.mp hs with rfl | hs
    · exact h2
    rcases List.mem_cons.mp hs with rfl | hs
    · cases hu
    rcases List.mem_cons.mp hs with rfl | hs
    · cases hu
    cases hs
  nol := G.nol
  own := fun s hs => by
    rcases List.mem_cons.mp hs with rfl | hs
    · exact G.fr
    rcases List.mem_cons.mp hs with rfl | hs
    · exact o1
    rcases List.mem_cons.mp hs with rfl | hs
    · exact o2
    cases hs
  nd := nd3 n1 n2' n3
  fact := fun F hF => by
    have up : ∀ s ∈ ([⟨L, oF, true⟩, ⟨tr, listN vt nt, false⟩, ⟨sh, listN vh nh, false⟩] : List Slot), s.u = true → s.a < lo ∨ h.objs.size ≤ s.a := fun s hs hu => by
      rcases List.mem_cons.mp hs with rfl | hs
      · exact .inl hlo
      rcases List.mem_cons.mp hs with rfl | hs
      · cases hu
      rcases List.mem_cons.mp hs with rfl | hs
      · cases hu
      cases hs
    rcases List.mem_cons.mp hF with rfl | hF
    · exact ⟨t1, treeF_stable _ _ _ _ _, Nat.le_refl _, up⟩
    rcases List.mem_cons.mp hF with rfl | hF
    · exact ⟨t2, treeF_stable _ _ _ _ _, Nat.le_refl _, up⟩
    cases hF
theorem hcs0 (w : World) (b bi : Bool) : ∃ o, (Pw w b bi).kt.get cStatics = some o := ⟨o2 (wI w bi).params, kcs (wI w bi).params⟩
theorem pieceQ {P : Par} (E : Env0 P A) (hcs : ∃ o, P.kt.get cStatics = some o) {j0 j1 : Nat} {tk : Nat} {sl : List Slot} {O : List Fact} (M : Mid P sl O h) (T : Tele) (v : ValidT P 0 0 T) (n ks : Nat) (ids nids : List Nat) (hn : ndB nids = true) {Q : Type} {ups adds : Q → List (Addr × Obj)} {fs : Q → List Fact} {k : Nat}
    (H : AllT T fun l => ∃ q : Q, Same (cutBT P L j0 j1 n ks l ⟨sl, h.objs.size, tk, O⟩ k ids nids (ups q) (adds q) (fs q))) (hk : k = sl.length)
    (K : ∀ q h' tk', Fin1 h (upA sl) O (ups q) (adds q) (fs q) h' → At0 P A g d os R L j1 h' tk') : At0 P A g d os R L j0 h tk := by
  subst hk
  exact piece (F := fun u a f => ∃ q : Q, u = ups q ∧ a = adds q ∧ f = fs q) E hcs M T v n ks ids nids hn (H.mono fun l ⟨q, x⟩ => ⟨_, _, _, x, q, rfl, rfl, rfl⟩) fun u a f h' tk' ⟨q, e1, e2, e3⟩ X => by
    subst e1; subst e2; subst e3
    exact K q h' tk' X
theorem pieceP {P : Par} {A : Around} {g : Array GenState} {d : Drawn} {os : OsState} {R : Result → Shared → Prop} {h : Heap} {L : Addr} (E : Env0 P A) (hcs : ∃ o, P.kt.get cStatics = some o) {j0 j1 : Nat} {tk : Nat} {sl : List Slot} {O : List Fact} (M : Mid P sl O h) {n ks : Nat} {ids nids : List Nat} {Q : Type} {ups adds : Q → List (Addr × Obj)} {fs : Q → List Fact} {k : Nat}
    (H : PV P fun l => ∃ q : Q, Same (cutBT P L j0 j1 n ks l ⟨sl, h.objs.size, tk, O⟩ k ids nids (ups q) (adds q) (fs q))) (hk : k = sl.length) (hn : ndB nids = true)
    (K : ∀ q h' tk', Fin1 h (upA sl) O (ups q) (adds q) (fs q) h' → At0 P A g d os R L j1 h' tk') : At0 P A g d os R L j0 h tk := by
  obtain ⟨T, v, H⟩ := H
  exact pieceQ E hcs M T v n ks ids nids hn H hk K
theorem g4 (E : Env0 (Pw w b bi) A) (ht : ∀ a o, (Pw w b bi).kt.get a = some o → h₀.get? a = some o) (HR : GoodR R h₀ g d os) {xs : List (Int × Nat)} (hv : vs = intL xs) (hx : xs.length < 100) {c : Nat} (hc : c < 35)
    (cm : Bool) {i : Nat} (hi : i < 12) {l : List (Nat × Str)} (hl : ∀ p ∈ l, p.1 < 3 ∧ p.2 ∈ signsL) (h3 : l.length ≤ 3) {e : Nat} (he : e < 2) {lo : Nat} (hlo : L < lo) {tr sh : Addr} (hts : tr ≠ sh)
    (t1 : TreeAt (wI w bi).params lo h (.ref tr) (rowsOf (cmT cm (lksT l (oRT i))))) (t2 : TreeAt (wI w bi).params lo h (.ref sh) (rowsOf (cmT cm (lksT l (oRS i)))))
    {scr lk tg : Addr} {m : Nat} {s : Str} {kk vv : Nat → Nat} (G : Gl h₀ L pen s2 vs n2 c sm tc ts (fr5 (wI w bi).params scr lk (mainX e cm i l) tr sh (oL i) m s tg kk vv) h) (tk : Nat) : At0 (Pw w b bi) A g d os R L 7 h tk := by
  have hch := main_chain (wI w bi) b e he cm i hl (mainX_len he cm i hl h3)
  obtain ⟨hf, e1, r1⟩ := reads_ok (wI w bi) b _ _ i hi cm true l hl h3 hch
  obtain ⟨_, e2, r2⟩ := reads_ok (wI w bi) b _ _ i hi cm false l hl h3 hch
  have k1 := cmT_ok cm (lksT_ok (oRT_ok i) l) h3
  have k2 := cmT_ok cm (lksT_ok (oRS_ok i) l) h3
  obtain ⟨vt, nt, o1, b1, _⟩ := tree_lst t1 k1.lst
  obtain ⟨vh, nh, o2, b2, _⟩ := tree_lst t2 k2.lst
  have n1 : L ≠ tr := get_ne G.fr o1 frame_list
  have n2' : L ≠ sh := get_ne G.fr o2 frame_list
  have q1 : (oL i && !true) = false := by cases oL i <;> rfl
  rw [q1] at r1
  have hI : Nd (wI w bi) b (cInit (wI w bi).params (mainX e cm i l) (hdTk (mkI (spOf e) bZ (cmW cm (lksW i l))) kS)) := fun {ix} I => n_init (wI w bi) b _ _ hf I
  have M := G.mid4 ht hlo o1 o2 n1 n2' hts t1 t2
  have fin : ∀ (fs : List Fact) (lf : Bool) (q : Q8) (h' : Heap) (tk' : Nat), Fin1 h (upA [⟨L, fr5 (wI w bi).params scr lk (mainX e cm i l) tr sh (oL i) m s tg kk vv, true⟩, ⟨tr, listN vt nt, false⟩, ⟨sh, listN vh nh, false⟩]) [treeF (wI w bi).params lo h.objs.size (.ref tr) (rowsOf (cmT cm (lksT l (oRT i)))), treeF (wI w bi).params lo h.objs.size (.ref sh) (rowsOf (cmT cm (lksT l (oRS i))))] [(L, fr8 (wI w bi).params scr lk (mainX e cm i l) tr sh lf m s tg q.rd q.kk q.vv)] [] fs h' → At0 (Pw w b bi) A g d os R L 8 h' tk' := fun fs lf q h' tk' X => by
    rw [upA3] at X
    have np : pen ∉ [L] := fun hm => G.nes.1 (List.mem_singleton.mp hm).symm
    have G' := G.step X (fun a ha => .inl (List.mem_singleton.mp ha)) ⟨_, ht _ _ (kcs _)⟩ (X.own _ (.head _)) (X.keep _ _ G.pn np)
    exact g5 E ht HR hv hx hc (show Gl h₀ L pen s2 vs n2 c sm tc ts ⟨_, _, .dict _ _, _⟩ h' from G') tk'
  have r1' : Reads (wI w bi) b (mainX e cm i l) (hdTk (mkI (spOf e) bZ (cmW cm (lksW i l))) kS) true (tE e1) (cmT cm (lksT l (oRT i))) := r1
  have r2' : Reads (wI w bi) b (mainX e cm i l) (hdTk (mkI (spOf e) bZ (cmW cm (lksW i l))) kS) false (kEnd (oL i && !false) e2) (cmT cm (lksT l (oRS i))) := r2
  clear r1 r2
  cases hlf : oL i with
  | true =>
    rw [hlf] at M fin r2'
    exact pieceP E (hcs0 w b bi) M (p_p4_l w b bi L scr lk (mainX e cm i l) tr sh lo h.objs.size lo h.objs.size m s tg vt vh nt nh kk vv _ e1 e2 (cmT cm (lksT l (oRT i))) (cmT cm (lksT l (oRS i))) hI r1' r2' k1.ok k2.ok k1.dep k2.dep (Nat.le_trans (dep_rows _) k1.dep) (Nat.le_trans (dep_rows _) k2.dep) k1.lst k2.lst h.objs.size tk) rfl (by rfl') fun q h' tk' X => fin _ true q h' tk' X
  | false =>
    rw [hlf] at M fin r2'
    exact pieceP E (hcs0 w b bi) M (p_p4_n w b bi L scr lk (mainX e cm i l) tr sh lo h.objs.size lo h.objs.size m s tg vt vh nt nh kk vv _ e1 e2 (cmT cm (lksT l (oRT i))) (cmT cm (lksT l (oRS i))) hI r1' r2' k1.ok k2.ok k1.dep k2.dep (Nat.le_trans (dep_rows _) k1.dep) (Nat.le_trans (dep_rows _) k2.dep) k1.lst k2.lst h.objs.size tk) rfl (by rfl') fun q h' tk' X => fin _ false q h' tk' X
end
theorem tl {P : Params} {lo : Nat} {h : Heap} {a : Addr} {vs : List Value} {n : Nat} {ts : List Tr} (o : h.get? a = some (listN vs n) ∧ lo ≤ a) (r : IsTrees P lo h.objs.size h vs ts) : TreeAt P lo h (.ref a) (.lst ts) :=
  .lst a n vs ts o.2 (Heap.lt_size o.1) o.1 r
theorem ne_add (z : Nat) {a b : Nat} (h : a ≠ b) : z + a ≠ z + b := by omega
theorem tss {P : Params} {lo hi : Nat} {h : Heap} {s1 s2 : Str} {t1 t2 : Nat} : IsTrees P lo hi h [.str s1 t1, .str s2 t2] [.str s1, .str s2] := .cons (.str _ _) (.cons (.str _ _) .nil)
section
variable {P : Params} {lo : Nat} {h : Heap} {z : Nat} {t : Nat → Nat} {tr sh : Addr} {T S : Tr}
theorem cm_tree (own : ∀ p ∈ cmO z t tr sh, h.get? p.1 = some p.2 ∧ lo ≤ p.1) (t1 : TreeAt P lo h (.ref tr) (rowsOf T)) (t2 : TreeAt P lo h (.ref sh) (rowsOf S)) : TreeAt P lo h (.ref (z + 3)) (rowsOf (cmT true T)) ∧ TreeAt P lo h (.ref (z + 7)) (rowsOf (cmT true S)) := by
  have o1 := own _ (.head _)
  have o2 := own _ (.tail _ (.head _))
  have o3 := own _ (.tail _ (.tail _ (.head _)))
  have o4 := own _ (.tail _ (.tail _ (.tail _ (.head _))))
  have o5 := own _ (.tail _ (.tail _ (.tail _ (.tail _ (.head _)))))
  have o6 := own _ (.tail _ (.tail _ (.tail _ (.tail _ (.tail _ (.head _))))))
  exact ⟨tl o1 (.cons (.str _ _) (.cons (tl o2 (.cons (tl o3 tss) (.cons t1 .nil))) .nil)), tl o4 (.cons (.str _ _) (.cons (tl o5 (.cons (tl o6 tss) (.cons t2 .nil))) .nil))⟩
theorem it_tree {m : Nat} {s : Str} {g : Nat} (hm : m < 3) (own : ∀ p ∈ itO z t m s g tr sh, h.get? p.1 = some p.2 ∧ lo ≤ p.1) (t1 : TreeAt P lo h (.ref tr) (rowsOf T)) (t2 : TreeAt P lo h (.ref sh) (rowsOf S)) : TreeAt P lo h (.ref (z + 11)) (rowsOf (asT m s T)) ∧ TreeAt P lo h (.ref (z + 12)) (rowsOf (asT m s S)) := by
  have o1 := own _ (.head _)
  have o2 := own _ (.tail _ (.head _))
  have o3 := own _ (.tail _ (.tail _ (.head _)))
  have o4 := own _ (.tail _ (.tail _ (.tail _ (.head _))))
  have o5 := own _ (.tail _ (.tail _ (.tail _ (.tail _ (.head _)))))
  have o6 := own _ (.tail _ (.tail _ (.tail _ (.tail _ (.tail _ (.head _))))))
  have o7 := own _ (.tail _ (.tail _ (.tail _ (.tail _ (.tail _ (.tail _ (.head _)))))))
  have o8 := own _ (.tail _ (.tail _ (.tail _ (.tail _ (.tail _ (.tail _ (.tail _ (.head _))))))))
  have tg : TreeAt P lo h (.ref (sel m z (z + 3) (z + 8))) (rowsOf (tgT m)) := by
    have : m = 0 ∨ m = 1 ∨ m = 2 := by omega
    rcases this with rfl | rfl | rfl
    · exact tl o1 tss
    · exact tl o2 (.cons (.str _ _) (.cons (tl o3 tss) (.cons (.str _ _) .nil)))
    · exact tl o4 (.cons (.str _ _) (.cons (tl o5 tss) (.cons (tl o6 tss) .nil)))
  exact ⟨tl o7 (.cons (.str _ _) (.cons (.str _ _) (.cons tg (.cons t1 .nil)))), tl o8 (.cons (.str _ _) (.cons (.str _ _) (.cons tg (.cons t2 .nil))))⟩
end
section
variable {w : World} {b bi : Bool} {A : Around} {g : Array GenState} {d : Drawn} {os : OsState} {R : Result → Shared → Prop} {h₀ h : Heap} {L pen s2 : Addr} {vs : List Value} {n2 : Nat} {sm : Int} {tc ts : Nat}
theorem g3 (E : Env0 (Pw w b bi) A) (ht : ∀ a o, (Pw w b bi).kt.get a = some o → h₀.get? a = some o) (HR : GoodR R h₀ g d os) {xs : List (Int × Nat)} (hv : vs = intL xs) (hx : xs.length < 100) {c : Nat} (hc : c < 33)
    {i : Nat} (hi : i < 12) {l : List (Nat × Str)} (hl : ∀ p ∈ l, p.1 < 3 ∧ p.2 ∈ signsL) (h3 : l.length ≤ 3) {lo : Nat} (hlo : L < lo) (hlp : pen < lo) (hls : lo ≤ h.objs.size) {tr sh : Addr} (hts : tr ≠ sh)
    (t1 : TreeAt (wI w bi).params lo h (.ref tr) (rowsOf (lksT l (oRT i)))) (t2 : TreeAt (wI w bi).params lo h (.ref sh) (rowsOf (lksT l (oRS i))))
    {scr lk tg : Addr} {m : Nat} {s : Str} {kk vv : Nat → Nat} (G : Gl h₀ L pen s2 vs n2 c sm tc ts (fr5 (wI w bi).params scr lk (lksX i l) tr sh (oL i) m s tg kk vv) h) (tk : Nat) : At0 (Pw w b bi) A g d os R L 5 h tk := by
  obtain ⟨cn, hcn, pc⟩ := pick_nat xs sm c (many := 2) (by decide)
  obtain ⟨e, he, pe⟩ := pick_nat xs sm (c + 1) (many := 2) (by decide)
  have hX : (lksX i l).length < 250 := by have := lksX_len i hl (by omega); omega
  have hM : ∀ a ∈ [L, pen], a < lo := fun a ha => by
    rcases mem2 ha with rfl | rfl
    · exact hlo
    · exact hlp
  have q : cn = 1 ∨ cn = 0 := by omega
  rcases q with rfl | rfl
  · refine pieceP E (hcs0 w b bi) (G.mid ht) (p_p3_c w b bi L scr lk pen s2 vs xs n2 c sm tc ts (lksX i l) tr sh (oL i) m s tg kk vv e hv hx (by omega) he hX pc pe h.objs.size tk) rfl (by rfl') fun q h' tk' X => ?_
    rw [upA4] at X
    have G' := G.step X (fun a ha => mem2 ha) ⟨_, ht _ _ (kcs _)⟩ (X.own _ (.head _)) (X.own _ (.tail _ (.head _)))
    have T := cm_tree (fun p hp => ⟨(X.add p hp).1, Nat.le_trans hls (X.add p hp).2⟩) (tree_step X hM t1) (tree_step X hM t2)
    exact g4 E ht HR hv hx (c := c + 2) (by omega) true hi hl h3 he hlo (ne_add q.z (a := 3) (b := 7) (by decide)) T.1 T.2 G' tk'
  · refine pieceP E (hcs0 w b bi) (G.mid ht) (p_p3_n w b bi L scr lk pen s2 vs xs n2 c sm tc ts (lksX i l) tr sh (oL i) m s tg kk vv e hv hx (by omega) he hX pc pe h.objs.size tk) rfl (by rfl') fun q h' tk' X => ?_
    rw [upA4] at X
    have G' := G.step X (fun a ha => mem2 ha) ⟨_, ht _ _ (kcs _)⟩ (X.own _ (.head _)) (X.own _ (.tail _ (.head _)))
    exact g4 E ht HR hv hx (c := c + 2) (by omega) false hi hl h3 he hlo hts (tree_step X hM t1) (tree_step X hM t2) G' tk'
structure Lks (h : Heap) (L pen lk : Addr) (l : List (Nat × Str)) (ta tf tg : Nat → Nat) (ln : Nat) : Prop where
  olk : h.get? lk = some (listN (refsF ta l 0) ln)
  tu : ∀ p ∈ tupsF ta tf tg l 0, h.get? p.1 = some p.2
  nd : (L :: lk :: (tupsF ta tf tg l 0).map (·.1)).Nodup
  pn : pen ≠ lk ∧ ∀ p ∈ tupsF ta tf tg l 0, pen ≠ p.1
theorem Gl.midL {P : Par} {c : Int} {oF : Obj} (G : Gl h₀ L pen s2 vs n2 c sm tc ts oF h) (ht : ∀ a o, P.kt.get a = some o → h₀.get? a = some o) {ex : List Slot} (hu : ∀ s ∈ ex, s.u = false) (own : ∀ s ∈ ex, h.get? s.a = some s.o) (nd : (L :: ex.map (·.a)).Nodup) : Mid P (⟨L, oF, true⟩ :: ex) [] h where
  top := fun a o e => by
    obtain ⟨h1, h2, h3⟩ := G.top ht e
    refine ⟨h1, fun s hs q => ?_⟩
    rcases List.mem_cons.mp hs with rfl | hs
    · exact h2
    · rw [hu s hs] at q; cases q
  nol := G.nol
  own := fun s hs => by
    rcases List.mem_cons.mp hs with rfl | hs
    · exact G.fr
    · exact own s hs
  nd := nd
  fact := fun F hF => nomatch hF
theorem mem1 {L a : Addr} (h : a ∈ [L]) : a = L := List.mem_singleton.mp h
theorem g2 (E : Env0 (Pw w b bi) A) (ht : ∀ a o, (Pw w b bi).kt.get a = some o → h₀.get? a = some o) (HR : GoodR R h₀ g d os) {xs : List (Int × Nat)} (hv : vs = intL xs) (hx : xs.length < 100) {c : Nat} (hc : c < 33)
    {i : Nat} (hi : i < 12) {l : List (Nat × Str)} (hl : ∀ p ∈ l, p.1 < 3 ∧ p.2 ∈ signsL) (h1 : 1 ≤ l.length) (h3 : l.length ≤ 3) {lo : Nat} (hlo : L < lo) (hlp : pen < lo) (hls : lo ≤ h.objs.size) {tr sh : Addr}
    (t1 : TreeAt (wI w bi).params lo h (.ref tr) (rowsOf (oRT i))) (t2 : TreeAt (wI w bi).params lo h (.ref sh) (rowsOf (oRS i)))
    {scr lk : Addr} {tt ln : Nat} {kk ta tf tg : Nat → Nat} (K : Lks h L pen lk l ta tf tg ln) (G : Gl h₀ L pen s2 vs n2 c sm tc ts (fr4 (wI w bi).params scr lk (oX i) tr sh (oL i) kk tt) h) (tk : Nat) : At0 (Pw w b bi) A g d os R L 4 h tk := by
  have hM : ∀ a ∈ [L], a < lo := fun a ha => by rw [mem1 ha]; exact hlo
  have np : pen ∉ [L] := fun hm => G.nes.1 (mem1 hm).symm
  have hcs : ∃ o, h₀.get? cStatics = some o := ⟨_, ht _ _ (kcs _)⟩
  have len : ∀ l', (∀ p ∈ l', p.1 < 3 ∧ p.2 ∈ signsL) → l'.length ≤ 3 → (lksX i l').length < 200 := fun l' h h3 => by have := lksX_len i h (by omega); omega
  match l, hl, h1, h3, K with
  | [(m0, s0)], hl, _, _, K =>
    obtain ⟨hm0, hs0⟩ := hl _ (.head _)
    have M := G.midL ht (ex := [⟨lk, listN [.ref (ta 0)] ln, false⟩, ⟨ta 0, tupO [.int (m0 : Nat) (tf 0), .str s0 (tg 0)], false⟩]) (fun s hs => by
      rcases List.mem_cons.mp hs with rfl | hs
      · rfl
      rw [List.mem_singleton.mp hs]) (fun s hs => by
      rcases List.mem_cons.mp hs with rfl | hs
      · exact K.olk
      rw [List.mem_singleton.mp hs]; exact K.tu _ (.head _)) K.nd
    refine pieceP E (hcs0 w b bi) M (p_p2_1 w b bi L scr lk (oX i) tr sh (oL i) kk tt ln m0 (tf 0) (tg 0) (ta 0) s0 hm0 hs0 (len [] (fun _ h => nomatch h) (Nat.le_of_ble_eq_true rfl)) h.objs.size tk) rfl (by rfl') fun q h' tk' X => ?_
    have X' : Fin1 h [L] [] _ _ _ h' := X
    have G' := G.step X' (fun a ha => .inl (mem1 ha)) hcs (X.own _ (.head _)) (X'.keep _ _ G.pn np)
    have add := fun p hp => (show h'.get? p.1 = some p.2 ∧ lo ≤ p.1 from ⟨(X.add p hp).1, Nat.le_trans hls (X.add p hp).2⟩)
    have T := it_tree hm0 (fun p hp => add p (List.mem_append_left _ hp)) (tree_step X' hM t1) (tree_step X' hM t2)
    exact g3 E ht HR hv hx hc hi (l := [(m0, s0)]) hl (Nat.le_of_ble_eq_true rfl) hlo hlp (Nat.le_trans hls X.grow) (ne_add q.z (a := 18) (b := 19) (by decide)) T.1 T.2 G' tk'
  | [(m0, s0), (m1, s1)], hl, _, _, K =>
    obtain ⟨hm0, hs0⟩ := hl _ (.head _)
    obtain ⟨hm1, hs1⟩ := hl _ (.tail _ (.head _))
    have M := G.midL ht (ex := [⟨lk, listN [.ref (ta 0), .ref (ta 1)] ln, false⟩, ⟨ta 0, tupO [.int (m0 : Nat) (tf 0), .str s0 (tg 0)], false⟩, ⟨ta 1, tupO [.int (m1 : Nat) (tf 1), .str s1 (tg 1)], false⟩]) (fun s hs => by
      rcases List.mem_cons.mp hs with rfl | hs
      · rfl
      rcases List.mem_cons.mp hs with rfl | hs
      · rfl
      rw [List.mem_singleton.mp hs]) (fun s hs => by
      rcases List.mem_cons.mp hs with rfl | hs
      · exact K.olk
      rcases List.mem_cons.mp hs with rfl | hs
      · exact K.tu _ (.head _)
      rw [List.mem_singleton.mp hs]; exact K.tu _ (.tail _ (.head _))) K.nd
    refine pieceP E (hcs0 w b bi) M (p_p2_2 w b bi L scr lk (oX i) tr sh (oL i) kk tt ln m0 (tf 0) (tg 0) (ta 0) m1 (tf 1) (tg 1) (ta 1) s0 s1 hm0 hs0 (len [(m1, s1)] (fun p hp => hl p (.tail _ hp)) (Nat.le_of_ble_eq_true rfl)) hm1 hs1 (len [] (fun _ h => nomatch h) (Nat.le_of_ble_eq_true rfl)) h.objs.size tk) rfl (by rfl') fun q h' tk' X => ?_
    have X' : Fin1 h [L] [] _ _ _ h' := X
    have G' := G.step X' (fun a ha => .inl (mem1 ha)) hcs (X.own _ (.head _)) (X'.keep _ _ G.pn np)
    have add := fun p hp => (show h'.get? p.1 = some p.2 ∧ lo ≤ p.1 from ⟨(X.add p hp).1, Nat.le_trans hls (X.add p hp).2⟩)
    have T1 := it_tree hm1 (fun p hp => add p (List.mem_append_left _ hp)) (tree_step X' hM t1) (tree_step X' hM t2)
    have T := it_tree hm0 (fun p hp => add p (List.mem_append_right _ (List.mem_append_left _ hp))) T1.1 T1.2
    exact g3 E ht HR hv hx hc hi (l := [(m0, s0), (m1, s1)]) hl (Nat.le_of_ble_eq_true rfl) hlo hlp (Nat.le_trans hls X.grow) (ne_add q.z (a := 39) (b := 40) (by decide)) T.1 T.2 G' tk'
  | [(m0, s0), (m1, s1), (m2, s3)], hl, _, _, K =>
    obtain ⟨hm0, hs0⟩ := hl _ (.head _)
    obtain ⟨hm1, hs1⟩ := hl _ (.tail _ (.head _))
    obtain ⟨hm2, hs2⟩ := hl _ (.tail _ (.tail _ (.head _)))
    have M := G.midL ht (ex := [⟨lk, listN [.ref (ta 0), .ref (ta 1), .ref (ta 2)] ln, false⟩, ⟨ta 0, tupO [.int (m0 : Nat) (tf 0), .str s0 (tg 0)], false⟩, ⟨ta 1, tupO [.int (m1 : Nat) (tf 1), .str s1 (tg 1)], false⟩, ⟨ta 2, tupO [.int (m2 : Nat) (tf 2), .str s3 (tg 2)], false⟩]) (fun s hs => by
      rcases List.mem_cons.mp hs with rfl | hs
      · rfl
      rcases List.mem_cons.mp hs with rfl | hs
      · rfl
      rcases List.mem_cons.mp hs with rfl | hs
      · rfl
      rw [List.mem_singleton.mp hs]) (fun s hs => by
      rcases List.mem_cons.mp hs with rfl | hs
      · exact K.olk
      rcases List.mem_cons.mp hs with rfl | hs
      · exact K.tu _ (.head _)
      rcases List.mem_cons.mp hs with rfl | hs
      · exact K.tu _ (.tail _ (.head _))
      rw [List.mem_singleton.mp hs]; exact K.tu _ (.tail _ (.tail _ (.head _)))) K.nd
    refine pieceP E (hcs0 w b bi) M (p_p2_3 w b bi L scr lk (oX i) tr sh (oL i) kk tt ln m0 (tf 0) (tg 0) (ta 0) m1 (tf 1) (tg 1) (ta 1) m2 (tf 2) (tg 2) (ta 2) s0 s1 s3 hm0 hs0 (len [(m1, s1), (m2, s3)] (fun p hp => hl p (.tail _ hp)) (Nat.le_of_ble_eq_true rfl)) hm1 hs1 (len [(m2, s3)] (fun p hp => hl p (.tail _ (.tail _ hp))) (Nat.le_of_ble_eq_true rfl)) hm2 hs2 (len [] (fun _ h => nomatch h) (Nat.le_of_ble_eq_true rfl)) h.objs.size tk) rfl (by rfl') fun q h' tk' X => ?_
    have X' : Fin1 h [L] [] _ _ _ h' := X
    have G' := G.step X' (fun a ha => .inl (mem1 ha)) hcs (X.own _ (.head _)) (X'.keep _ _ G.pn np)
    have add := fun p hp => (show h'.get? p.1 = some p.2 ∧ lo ≤ p.1 from ⟨(X.add p hp).1, Nat.le_trans hls (X.add p hp).2⟩)
    have T1 := it_tree hm2 (fun p hp => add p (List.mem_append_left _ hp)) (tree_step X' hM t1) (tree_step X' hM t2)
    have T2 := it_tree hm1 (fun p hp => add p (List.mem_append_right _ (List.mem_append_left _ hp))) T1.1 T1.2
    have T := it_tree hm0 (fun p hp => add p (List.mem_append_right _ (List.mem_append_right _ (List.mem_append_left _ hp)))) T2.1 T2.2
    exact g3 E ht HR hv hx hc hi (l := [(m0, s0), (m1, s1), (m2, s3)]) hl (Nat.le_of_ble_eq_true rfl) hlo hlp (Nat.le_trans hls X.grow) (ne_add q.z (a := 60) (b := 61) (by decide)) T.1 T.2 G' tk'
end
theorem rows_oT : ∀ i : Nat, rowsOf (oRT i) = oT i
  | 0 => rfl
  | 1 => rfl
  | 2 => rfl
  | 3 => rfl
  | 4 => rfl
  | 5 => rfl
  | 6 => rfl
  | 7 => rfl
  | 8 => rfl
  | 9 => rfl
  | 10 => rfl
  | n + 11 => rfl
theorem rows_oS : ∀ i : Nat, rowsOf (oRS i) = oS i
  | 0 => rfl
  | 1 => rfl
  | 2 => rfl
  | 3 => rfl
  | 4 => rfl
  | 5 => rfl
  | 6 => rfl
  | 7 => rfl
  | 8 => rfl
  | 9 => rfl
  | 10 => rfl
  | 11 => rfl
  | n + 12 => rfl
theorem oRS_eq : ∀ i : Nat, oL i = false → oRS i = oRT i
  | 0, _ => rfl
  | 1, _ => rfl
  | 2, h => nomatch h
  | 3, _ => rfl
  | 4, _ => rfl
  | 5, _ => rfl
  | 6, h => nomatch h
  | 7, _ => rfl
  | 8, _ => rfl
  | 9, h => nomatch h
  | 10, h => nomatch h
  | 11, h => nomatch h
  | n + 12, _ => rfl
section
variable {w : World} {b bi : Bool} {A : Around} {g : Array GenState} {d : Drawn} {os : OsState} {R : Result → Shared → Prop} {h₀ h : Heap} {L pen s2 : Addr} {vs : List Value} {n2 : Nat} {sm : Int} {tc ts : Nat}
theorem Lks.step {lk : Addr} {l : List (Nat × Str)} {ta tf tg : Nat → Nat} {ln : Nat} {O fs : List Fact} {ups adds : List (Addr × Obj)} {h' : Heap} (K : Lks h L pen lk l ta tf tg ln) (X : Fin1 h [L, pen] O ups adds fs h') : Lks h' L pen lk l ta tf tg ln := by
  have n1 := List.nodup_cons.mp K.nd
  have ne : ∀ {a : Addr}, a ∈ lk :: (tupsF ta tf tg l 0).map (·.1) → pen ≠ a → a ∉ [L, pen] := fun {a} h1 h2 h3 => by
    rcases mem2 h3 with rfl | rfl
    · exact n1.1 h1
    · exact h2 rfl
  exact ⟨X.keep _ _ K.olk (ne (.head _) K.pn.1), fun p hp => X.keep _ _ (K.tu p hp) (ne (.tail _ (List.mem_map.mpr ⟨p, hp, rfl⟩)) (K.pn.2 p hp)), K.nd, K.pn⟩
theorem g1 (E : Env0 (Pw w b bi) A) (ht : ∀ a o, (Pw w b bi).kt.get a = some o → h₀.get? a = some o) (HR : GoodR R h₀ g d os) {xs : List (Int × Nat)} (hv : vs = intL xs) (hx : xs.length < 100) {c : Nat} (hc : c < 32)
    {l : List (Nat × Str)} (hl : ∀ p ∈ l, p.1 < 3 ∧ p.2 ∈ signsL) (h1 : 1 ≤ l.length) (h3 : l.length ≤ 3) {scr lk : Addr} {ln : Nat} {kk ta tf tg : Nat → Nat} (K : Lks h L pen lk l ta tf tg ln) (G : Gl h₀ L pen s2 vs n2 c sm tc ts (fr2 (wI w bi).params scr lk kk) h) (tk : Nat) : At0 (Pw w b bi) A g d os R L 2 h tk := by
  obtain ⟨i, hi, pi⟩ := pick_nat xs sm c (many := 12) (by decide)
  have ho : Nd (wI w bi) b (cOpsI (wI w bi).params i (oX i) (oT i) (oS i) (oL i)) := n_opsI w b bi i hi
  have hL := Heap.lt_size G.fr
  have hp := Heap.lt_size G.pn
  have hcs : ∃ o, h₀.get? cStatics = some o := ⟨_, ht _ _ (kcs _)⟩
  have e1 : ((c : Int) + 1) = ((c + 1 : Nat) : Int) := by omega
  cases hlf : oL i with
  | true =>
    rw [hlf] at ho
    refine pieceP E (hcs0 w b bi) (G.mid ht) (p_p1_l w b bi L scr lk pen s2 vs xs n2 c sm tc ts kk i (oX i) (oT i) (oS i) ho hv hx (by omega) hi pi h.objs.size tk) rfl (by rfl') fun q h' tk' X => ?_
    rw [upA4] at X
    have G' := G.step X (fun a ha => mem2 ha) hcs (X.own _ (.head _)) (X.own _ (.tail _ (.head _)))
    have f1 := X.fact _ (.head _)
    have f2 := X.fact _ (.tail _ (.head _))
    have t1 : TreeAt (wI w bi).params h.objs.size h' (.ref q.tr) (rowsOf (oRT i)) := by
      rw [rows_oT]
      exact IsTree.mono (X.new0 _ (.head _)) f1.2.2 (fun _ _ _ _ e => e) f1.1
    have t2 : TreeAt (wI w bi).params h.objs.size h' (.ref q.sh) (rowsOf (oRS i)) := by
      rw [rows_oS]
      exact IsTree.mono (X.new0 _ (.tail _ (.head _))) f2.2.2 (fun _ _ _ _ e => e) f2.1
    rw [e1, ← hlf] at G'
    exact g2 E ht HR hv hx (by omega) hi hl h1 h3 hL hp X.grow t1 t2 (K.step X) G' tk'
  | false =>
    rw [hlf] at ho
    refine pieceP E (hcs0 w b bi) (G.mid ht) (p_p1_n w b bi L scr lk pen s2 vs xs n2 c sm tc ts kk i (oX i) (oT i) (oS i) ho hv hx (by omega) hi pi h.objs.size tk) rfl (by rfl') fun q h' tk' X => ?_
    rw [upA4] at X
    have G' := G.step X (fun a ha => mem2 ha) hcs (X.own _ (.head _)) (X.own _ (.tail _ (.head _)))
    have f1 := X.fact _ (.head _)
    have t1 : TreeAt (wI w bi).params h.objs.size h' (.ref q.tr) (rowsOf (oRT i)) := by
      rw [rows_oT]
      exact IsTree.mono (X.new0 _ (.head _)) f1.2.2 (fun _ _ _ _ e => e) f1.1
    have t2 : TreeAt (wI w bi).params h.objs.size h' (.ref q.tr) (rowsOf (oRS i)) := by
      rw [oRS_eq i hlf]; exact t1
    rw [e1, ← hlf] at G'
    exact g2 E ht HR hv hx (by omega) hi hl h1 h3 hL hp X.grow t1 t2 (K.step X) G' tk'
theorem pieceAQ {P : Par} (E : Env0 P A) (hcs : ∃ o, P.kt.get cStatics = some o) {scr : Addr} {j1 : Nat} {tk : Nat} {sl : List Slot} {O : List Fact} (M : Mid P sl O h) (T : Tele) (v : ValidT P 0 0 T) (n ks : Nat) (ids nids : List Nat) (hn : ndB nids = true) {Q : Type} {ups adds : Q → List (Addr × Obj)} {fs : Q → List Fact} {k : Nat}
    (H : AllT T fun l => ∃ q : Q, Same (cutAT P scr j1 n ks l ⟨sl, h.objs.size, tk, O⟩ k ids nids (ups q) (adds q) (fs q))) (hk : k = sl.length)
    (K : ∀ q h' tk', Fin1 h (upA sl) O (ups q) (adds q) (fs q) h' → At0 P A g d os R h.objs.size j1 h' tk') : codeAny (model P.prog P.w) A (fcall 930 [.ref scr]) R ⟨h, g, d, tk, os⟩ := by
  subst hk
  exact pieceA (F := fun u a f => ∃ q : Q, u = ups q ∧ a = adds q ∧ f = fs q) E hcs M T v n ks ids nids hn (H.mono fun l ⟨q, x⟩ => ⟨_, _, _, x, q, rfl, rfl, rfl⟩) fun u a f h' tk' ⟨q, e1, e2, e3⟩ X => by
    subst e1; subst e2; subst e3
    exact K q h' tk' X
theorem pieceAP {P : Par} {A : Around} {g : Array GenState} {d : Drawn} {os : OsState} {R : Result → Shared → Prop} {h : Heap} (E : Env0 P A) (hcs : ∃ o, P.kt.get cStatics = some o) {scr : Addr} {j1 : Nat} {tk : Nat} {sl : List Slot} {O : List Fact} (M : Mid P sl O h) {n ks : Nat} {ids nids : List Nat} {Q : Type} {ups adds : Q → List (Addr × Obj)} {fs : Q → List Fact} {k : Nat}
    (H : PV P fun l => ∃ q : Q, Same (cutAT P scr j1 n ks l ⟨sl, h.objs.size, tk, O⟩ k ids nids (ups q) (adds q) (fs q))) (hk : k = sl.length) (hn : ndB nids = true)
    (K : ∀ q h' tk', Fin1 h (upA sl) O (ups q) (adds q) (fs q) h' → At0 P A g d os R h.objs.size j1 h' tk') : codeAny (model P.prog P.w) A (fcall 930 [.ref scr]) R ⟨h, g, d, tk, os⟩ := by
  obtain ⟨T, v, H⟩ := H
  exact pieceAQ E hcs M T v n ks ids nids hn H hk K
theorem after0 {P : Params} {scr : Addr} {c : Int} {l : List (Nat × Str)} {q : Q2} {h' : Heap} (nol : h.NoLimit) (hcs : ∃ o, h.get? cStatics = some o) (X : Fin1 h [] [] [] (form2 P scr h.objs.size vs c sm l q) [] h') :
    Gl h h.objs.size q.pen q.s2 (vs.take 30) q.n2 c sm q.tc q.ts (fr2 P scr q.lk q.kk) h' ∧ Lks h' h.objs.size q.pen q.lk l q.ta q.tf q.tg q.ln := by
  have keep : ∀ a o, h.get? a = some o → h'.get? a = some o := fun a o e => X.keep a o e (fun h => nomatch h)
  have a1 := X.add _ (.head _)
  have a2 := X.add _ (.tail _ (.head _))
  have a3 := X.add _ (.tail _ (.tail _ (.head _)))
  have a4 := X.add _ (.tail _ (.tail _ (.tail _ (.head _))))
  have a5 := X.add _ (.tail _ (.tail _ (.tail _ (.tail _ (.head _)))))
  have nd : (h.objs.size :: Nat.succ h.objs.size :: q.pen :: q.s2 :: q.lk :: (tupsF q.ta q.tf q.tg l 0).map (·.1)).Nodup := X.nd
  have np := List.nodup_cons.mp (List.nodup_cons.mp (List.nodup_cons.mp nd).2).2
  refine ⟨⟨keep, X.grow, nolimit_keep nol fun o e => keep _ _ e, a1.1, a2.1, a3.1, a4.1, (List.nodup_append.mp (show ([h.objs.size, Nat.succ h.objs.size, q.pen, q.s2] ++ (q.lk :: (tupsF q.ta q.tf q.tg l 0).map (·.1))).Nodup from nd)).1, Nat.le_refl _, a3.2⟩, a5.1, fun p hp => (X.add p (.tail _ (.tail _ (.tail _ (.tail _ (.tail _ hp)))))).1, ?_, ?_, ?_⟩
  · exact nd.sublist (.cons_cons _ (.cons _ (.cons _ (.cons _ (List.Sublist.refl _)))))
  · exact fun e => np.1 (.tail _ (e ▸ .head _))
  · exact fun p hp e => np.1 (.tail _ (.tail _ (List.mem_map.mpr ⟨p, hp, e.symm⟩)))
theorem g0 (E : Env0 (Pw w b bi) A) (ht : ∀ a o, (Pw w b bi).kt.get a = some o → h.get? a = some o) (nol : h.NoLimit) (HR : GoodR R h g d os) {scr : Addr} {vs : List Value} {cnt : Nat} (oscr : h.get? scr = some (listN vs cnt)) (hl : vs.length < 100) {xs : List (Int × Nat)} (hv : vs.take 30 = intL xs) (hx : xs.length < 100) (tk : Nat) :
    codeAny (model pw ((wI w bi).withFollow rowG b)) A (fcall 930 [.ref scr]) R ⟨h, g, d, tk, os⟩ := by
  have hcs : ∃ o, h.get? cStatics = some o := ⟨_, ht _ _ (kcs _)⟩
  have M : Mid (Pw w b bi) [⟨scr, listN vs cnt, false⟩] [] h := ⟨fun a o e => ⟨ht a o e, fun s hs hu => by rw [List.mem_singleton.mp hs] at hu; cases hu⟩, nol, fun s hs => by rw [List.mem_singleton.mp hs]; exact oscr, nd1 _, fun F hF => nomatch hF⟩
  have fin : ∀ {c : Nat} (hc : c < 32) (l : List (Nat × Str)) (hl : ∀ p ∈ l, p.1 < 3 ∧ p.2 ∈ signsL) (h1 : 1 ≤ l.length) (h3 : l.length ≤ 3) (q : Q2) (h' : Heap) (tk' : Nat), Fin1 h (upA [⟨scr, listN vs cnt, false⟩]) [] [] (form2 (wI w bi).params scr h.objs.size vs c (Int.fmod (preSum (numAt xs.toArray) xs.length) 997) l q) [] h' → At0 (Pw w b bi) A g d os R h.objs.size 2 h' tk' := fun {c} hc l hl h1 h3 q h' tk' X => by
    obtain ⟨G, K⟩ := after0 nol hcs (show Fin1 h [] [] [] _ [] h' from X)
    exact g1 E ht HR hv hx hc hl h1 h3 K G tk'
  have sgn : ∀ c : Nat, ∃ (m g' : Nat) (s : Str), m < 3 ∧ g' < 1000 ∧ s ∈ signsL ∧ pickV xs (Int.fmod (preSum (numAt xs.toArray) xs.length) 997) c 3 = m ∧ pickV xs (Int.fmod (preSum (numAt xs.toArray) xs.length) 997) (c + 1) 12 = g' ∧ signsL[g']? = some s := fun c => by
    obtain ⟨m, hm, pm⟩ := pick_nat xs (Int.fmod (preSum (numAt xs.toArray) xs.length) 997) c (many := 3) (by decide)
    obtain ⟨g', hg, pg⟩ := pick_nat xs (Int.fmod (preSum (numAt xs.toArray) xs.length) 997) (c + 1) (many := 12) (by decide)
    obtain ⟨s, e, ms⟩ := sign_at hg
    exact ⟨m, g', s, hm, by omega, ms, pm, pg, e⟩
  obtain ⟨m0, g0, s0, hm0, hg0, ms0, q1, q2, e0⟩ := sgn 1
  obtain ⟨m1, g1, s1, hm1, hg1, ms1, q3, q4, e1⟩ := sgn 3
  obtain ⟨m2, g2, s2, hm2, hg2, ms2, q5, q6, e2⟩ := sgn 5
  have hl1 : ∀ p ∈ [(m0, s0)], p.1 < 3 ∧ p.2 ∈ signsL := fun p hp => by
    rw [List.mem_singleton.mp hp]; exact ⟨hm0, ms0⟩
  have hl2 : ∀ p ∈ [(m0, s0), (m1, s1)], p.1 < 3 ∧ p.2 ∈ signsL := fun p hp => by
    rcases List.mem_cons.mp hp with rfl | hp
    · exact ⟨hm0, ms0⟩
    rw [List.mem_singleton.mp hp]; exact ⟨hm1, ms1⟩
  have hl3 : ∀ p ∈ [(m0, s0), (m1, s1), (m2, s2)], p.1 < 3 ∧ p.2 ∈ signsL := fun p hp => by
    rcases List.mem_cons.mp hp with rfl | hp
    · exact ⟨hm0, ms0⟩
    rcases List.mem_cons.mp hp with rfl | hp
    · exact ⟨hm1, ms1⟩
    rw [List.mem_singleton.mp hp]; exact ⟨hm2, ms2⟩
  obtain ⟨n, hn, qn⟩ := pick_nat xs (Int.fmod (preSum (numAt xs.toArray) xs.length) 997) 0 (many := 3) (by decide)
  have z : n = 0 ∨ n = 1 ∨ n = 2 := by omega
  rcases z with rfl | rfl | rfl
  · cases bi
    · exact pieceAP E (hcs0 w b false) M (p_p0_1f w b scr vs xs cnt (preSum (numAt xs.toArray) xs.length) m0 g0 s0 hl hv hx rfl qn q1 q2 (by omega) e0 h.objs.size tk) rfl (by rfl') fun q h' tk' X => fin (c := 3) (by decide) [(m0, s0)] hl1 (Nat.le_of_ble_eq_true rfl) (Nat.le_of_ble_eq_true rfl) q h' tk' X
    · exact pieceAP E (hcs0 w b true) M (p_p0_1t w b scr vs xs cnt (preSum (numAt xs.toArray) xs.length) m0 g0 s0 hl hv hx rfl qn q1 q2 (by omega) e0 h.objs.size tk) rfl (by rfl') fun q h' tk' X => fin (c := 3) (by decide) [(m0, s0)] hl1 (Nat.le_of_ble_eq_true rfl) (Nat.le_of_ble_eq_true rfl) q h' tk' X
  · cases bi
    · exact pieceAP E (hcs0 w b false) M (p_p0_2f w b scr vs xs cnt (preSum (numAt xs.toArray) xs.length) m0 g0 m1 g1 s0 s1 hl hv hx rfl qn q1 q2 (by omega) e0 q3 q4 (by omega) e1 h.objs.size tk) rfl (by rfl') fun q h' tk' X => fin (c := 5) (by decide) [(m0, s0), (m1, s1)] hl2 (Nat.le_of_ble_eq_true rfl) (Nat.le_of_ble_eq_true rfl) q h' tk' X
    · exact pieceAP E (hcs0 w b true) M (p_p0_2t w b scr vs xs cnt (preSum (numAt xs.toArray) xs.length) m0 g0 m1 g1 s0 s1 hl hv hx rfl qn q1 q2 (by omega) e0 q3 q4 (by omega) e1 h.objs.size tk) rfl (by rfl') fun q h' tk' X => fin (c := 5) (by decide) [(m0, s0), (m1, s1)] hl2 (Nat.le_of_ble_eq_true rfl) (Nat.le_of_ble_eq_true rfl) q h' tk' X
  · cases bi
    · exact pieceAP E (hcs0 w b false) M (p_p0_3f w b scr vs xs cnt (preSum (numAt xs.toArray) xs.length) m0 g0 m1 g1 m2 g2 s0 s1 s2 hl hv hx rfl qn q1 q2 (by omega) e0 q3 q4 (by omega) e1 q5 q6 (by omega) e2 h.objs.size tk) rfl (by rfl') fun q h' tk' X => fin (c := 7) (by decide) [(m0, s0), (m1, s1), (m2, s2)] hl3 (Nat.le_of_ble_eq_true rfl) (Nat.le_of_ble_eq_true rfl) q h' tk' X
    · exact pieceAP E (hcs0 w b true) M (p_p0_3t w b scr vs xs cnt (preSum (numAt xs.toArray) xs.length) m0 g0 m1 g1 m2 g2 s0 s1 s2 hl hv hx rfl qn q1 q2 (by omega) e0 q3 q4 (by omega) e1 q5 q6 (by omega) e2 h.objs.size tk) rfl (by rfl') fun q h' tk' X => fin (c := 7) (by decide) [(m0, s0), (m1, s1), (m2, s2)] hl3 (Nat.le_of_ble_eq_true rfl) (Nat.le_of_ble_eq_true rfl) q h' tk' X
end
theorem kt_of (P : Params) : KT.of (asOf.zip (objsOf P)) = ktOf P := by rfl'
theorem all_in {h : Heap} : ∀ {as : List Addr} {os : List Obj}, as.map h.get? = os.map some → AllIn h (as.zip os)
  | [], _, _ => trivial
  | _ :: _, [], e => nomatch e
  | a :: as, o :: os, e => ⟨(List.cons.inj e).1, all_in (List.cons.inj e).2⟩
theorem kt_gen {h : Heap} {as : List Addr} {os : List Obj} {t : KT} (ek : KT.of (as.zip os) = t) (Y : as.map h.get? = os.map some) {a : Addr} {o : Obj} (e : t.get a = some o) : h.get? a = some o := by
  subst ek
  exact kt_at (holds_of (all_in Y)) e
theorem kt_top {P : Params} {h : Heap} (Y : asOf.map h.get? = (objsOf P).map some) {a : Addr} {o : Obj} (e : (ktOf P).get a = some o) : h.get? a = some o :=
  kt_gen (kt_of P) Y e
noncomputable def entOf (o : Obj) : Array DictEntry := match o.data with
  | .dict es _ => es
  | _ => #[]
theorem kt3 (P : Params) : (ktOf P).get mainGlobals = some (o3 P) := by rfl'
theorem law_at (P : Params) : nsFind (entOf (o3 P)) (Z "law") = some (.ref 930) := by rfl'
theorem law_is {P : Params} {h : Heap} {mg : Str → Option Value} (hns : h.Ns mainGlobals mg) (e : h.get? mainGlobals = some (o3 P)) {a : Addr} (hm : mg (Z "law") = some (.ref a)) : a = 930 := by
  obtain ⟨o, es, ep, ho, hd, _, hf⟩ := hns
  rw [e] at ho
  cases ho
  have e2 : entOf (o3 P) = es := by
    unfold entOf
    rw [hd]
  have z := hf (Z "law")
  rw [← e2, law_at, hm] at z
  have z' := Value.ref.inj (Option.some.inj z)
  exact z'.symm
theorem ints_of {R : WRecords} : ∀ {xs : List WData}, WShape.hasItems R xs .int = true → ∃ ns : List Int, xs = ns.map .int
  | [], _ => ⟨[], rfl⟩
  | x :: xs, h => by
    simp only [WShape.hasItems, Bool.and_eq_true] at h
    obtain ⟨i, rfl⟩ := hasW_int h.1
    obtain ⟨ns, rfl⟩ := ints_of h.2
    exact ⟨i :: ns, rfl⟩
theorem vals_of {P : Params} {h : Heap} : ∀ {ns : List Int} {vs : List Value}, WellAll P h vs (ns.map .int) → ∃ l : List (Int × Nat), vs = intL l ∧ l.length = ns.length
  | [], vs, h => by
    cases h
    exact ⟨[], rfl, rfl⟩
  | n :: ns, vs, h => by
    cases h with
    | cons a r =>
      cases a with
      | int i t =>
        obtain ⟨l, rfl, e⟩ := vals_of r
        exact ⟨(n, t) :: l, rfl, by simp [e]⟩
theorem env0 (w : World) (b bi : Bool) : Env0 (Pw w b bi) callerA := ⟨rfl, by show 1 + claimMargin + 690 ≤ recursionLimit; decide, by show 4 + 9000 ≤ cLine; decide, fun _ => rfl⟩
abbrev rowL : RowW := PySem.Challenge.rw_pc0088_01.row.toRowW
theorem pre_is : rowL.pre = .and (.not (.lt (.lit (.int 63)) (.len (.arg 0)))) (.lit (.bool true)) := by rfl'
theorem pre_gen {R : WRecords} {xs : List WData} (h : (WTm.and (.not (.lt (.lit (.int 63)) (.len (.arg 0)))) (.lit (.bool true))).holds R { args := [.list xs] } = true) : xs.length ≤ 63 := by
  cases q : decide ((63 : Int) < (xs.length : Int)) with
  | true =>
    have h1 : Num.less? (.int 63) (.int xs.length) = some true := congrArg some q
    simp [WTm.holds, WTm.value, W.less?, h1] at h
  | false =>
    have := of_decide_eq_false q
    omega
theorem pre_len {xs : List WData} (h : rowL.pre.holds rowL.records { args := [.list xs] } = true) : xs.length ≤ 63 := by
  rw [pre_is] at h
  exact pre_gen h
theorem post_ok (args ds : List WData) : rowL.claim.post args (.bool true) ds = true := by rfl'
theorem walk {w : World} {s₀ s₁ : Shared} {mg : Str → Option Value} (hns : s₁.heap.Ns mainGlobals mg) (hnol : s₁.heap.NoLimit) (Y : asOf.map s₀.heap.get? = (objsOf w.params).map some) (keeps : ∀ b o, s₀.heap.get? b = some o → s₁.heap.get? b = some o) {a : Addr} (hmg : mg (Z "law") = some (.ref a)) (hgens : s₁.gens = #[])
    {args : List WData} {vals : List Value} (hpre : rowL.claim.pre args = true) (hwell : WellAll w.params s₁.heap vals args) (cl : Str → Option Addr) (mean : ExcName → Option Value) :
    wpAny (model pw w) callerA (PySem.call (.ref a) vals) (fun v s' => GoodWG rowL.claim cl mean args s₁ (.ok (.ret v)) s') (fun e s' => GoodWG rowL.claim cl mean args s₁ (.error e) s') s₁ := by
  have top : ∀ {a o}, (ktOf w.params).get a = some o → s₁.heap.get? a = some o := fun e => keeps _ _ (kt_top Y e)
  have ha := law_is hns (top (kt3 _)) hmg
  subst ha
  obtain ⟨hs, hp⟩ := pre_splitW hpre
  obtain ⟨d, r, rfl, hd, hr⟩ := hasAllW_cons hs
  have := hasAllW_nil hr
  subst this
  obtain ⟨xs, rfl, hi⟩ := hasW_list hd
  obtain ⟨ns, rfl⟩ := ints_of hi
  have hlen := pre_len hp
  cases hwell with
  | cons hv hr =>
    cases hr
    cases hv with
    | list ho hall =>
      rename_i scr vs
      obtain ⟨l, rfl, hl⟩ := vals_of hall
      obtain ⟨h, g, dr, tk, os⟩ := s₁
      have hg : g = #[] := hgens
      subst hg
      refine wpAny_call ?_
      have e1 : wI w (w.params.followText rowI) = w := World.withFollow_self w rowI
      have e2 : (wI w (w.params.followText rowI)).withFollow rowG (w.params.followText rowG) = w := by rw [e1]; exact World.withFollow_self w rowG
      have z := g0 (w := w) (b := w.params.followText rowG) (bi := w.params.followText rowI) (A := callerA) (g := #[]) (d := dr) (os := os) (h := h) (scr := scr) (vs := intL l) (cnt := 0) (xs := l.take 30)
        (R := fun r s' => match r with
          | .ok (.ret v) => GoodWG rowL.claim cl mean [.list (ns.map .int)] ⟨h, #[], dr, tk, os⟩ (.ok (.ret v)) s'
          | .ok _ => False
          | .error e => GoodWG rowL.claim cl mean [.list (ns.map .int)] ⟨h, #[], dr, tk, os⟩ (.error e) s')
        (env0 _ _ _) (fun a o e => by
          have e' : (ktOf (wI w (w.params.followText rowI)).params).get a = some o := e
          rw [e1] at e'
          exact top e') hnol (fun h' tk' k1 k2 => ?_) ho (by
          rw [List.length_map] at hlen
          show (l.map _).length < 100
          rw [List.length_map, hl]; omega) (by
          show (l.map _).take 30 = (l.take 30).map _
          rw [List.map_take]) (by rw [List.length_take]; omega) tk
      · rw [e2] at z
        exact z
      · exact ⟨.inl ⟨.bool true, .bool true, [], rfl, fun _ => rfl, .bool true, post_ok _ _, fun _ => ⟨.nil, fun _ h => nomatch h⟩⟩, .of_keep k1, rfl, .empty⟩
end
theorem fin : PySem.Challenge.rw_pc0088_01.Holds := head fun w s0 s1 mg mb G Y a o pm cd doc dV kV h1 h2 h3 h4 h5 hg args vals as L hpre hlay hreads hwell low => walk G.T.g G.T.nolimit (congrArg Prod.fst Y) L.keeps (show mg (PySem.Str.ofString "law") = some (.ref a) from PySem.W.defOf_name lawD_is ▸ h5) hg hpre hwell _ _
end
end Mine
theorem PySem.Challenge.cw_pc0088_01_holds : PySem.Challenge.rw_pc0088_01.Holds :=
  Mine.fin
